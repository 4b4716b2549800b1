import PyProof.Rows.All
import Wide.All
import OpenK.AllK
import Wide.FinOn
import HandS.ForMost
import HandS.ForExc
import HandS.Defaults
import HandS.ExcIs
import HandS.IsInst
import KE.KDictKeyed
import HandS.TupAny
import HandS.TupMul
import HandS.Style
import HandS.Wide
import PyProof.StrOps2
import PyProof.NeData
import KE.KEqNest
import HandS.More
import HandS.Conv
import HandS.Text
import HandS.RaiseMore
import HandS.Zip
import HandS.Flow
import HandS.Comp
import HandS.Small
import HandS.ExcOwn
import HandS.ExcValue
import HandS.TryOnly
import PyProof.ExcBaseAll.ValueError
import HandS.HeadEnd
import HandS.HeadHook1
import HandS.HeadHook2
import KE.KStateDown
import Lean
import HandS.Head0
import HandS.Head1
import HandS.Head2
import HandS.HeadHook4
import PySem.Challenge.RW_threeproofs_k06_values_of_terms
section
set_option Elab.async false
set_option linter.all false
namespace Ev
open PySem

/-- a value: lst, dct are lists and dicts that nobody else holds; fz a list that is never changed; ref n is object n of the store -/
inductive D where
  | non | bl (b : Bool) | int (i : Int) | str (x : Str)
  | tup (ds : List D) | lst (ds : List D) | dct (ks vs : List D)
  | fz (ds : List D) | ref (n : Nat) | exc (c : Nat)
  | nd (ks vs : List D)

abbrev Sto := List D
abbrev Env := List (Option D)

inductive R (α : Type) where
  | ok (a : α) (S : Sto)
  | ex (c : Nat) (S : Sto)

def bnd {α β : Type} (m : Option (R α)) (f : α → Sto → Option (R β)) : Option (R β) := match m with
  | some (.ok a S) => f a S
  | some (.ex c S) => some (.ex c S)
  | none => none
section
variable {α β : Type}
@[simp] theorem bnd_ok {a : α} {S : Sto} {f : α → Sto → Option (R β)} : bnd (some (.ok a S)) f = f a S := rfl
@[simp] theorem bnd_ex {c : Nat} {S : Sto} {f : α → Sto → Option (R β)} : bnd (some (.ex c S)) f = some (.ex c S) := rfl
@[simp] theorem bnd_none {f : α → Sto → Option (R β)} : bnd none f = none := rfl
theorem bnd_ite {c : Prop} [Decidable c] {x y : Option (R α)} {f : α → Sto → Option (R β)} : bnd (if c then x else y) f = if c then bnd x f else bnd y f := by split <;> rfl
end

/-! ### walks over a value -/
mutual
/-- every object that is named stands below b -/
def D.under (b : Nat) : D → Bool
  | .ref n => decide (n < b)
  | .tup ds => unders b ds
  | .lst ds => unders b ds
  | .fz ds => unders b ds
  | .dct ks vs => unders b ks && unders b vs
  | .nd ks vs => unders b ks && unders b vs
  | _ => true
def unders (b : Nat) : List D → Bool
  | [] => true
  | d :: ds => d.under b && unders b ds
end
mutual
/-- plain data: None, bools, ints, texts, tuples of such -/
def D.pure : D → Bool
  | .non => true
  | .bl _ => true
  | .int _ => true
  | .str _ => true
  | .tup ds => pures ds
  | _ => false
def pures : List D → Bool
  | [] => true
  | d :: ds => d.pure && pures ds
end
mutual
/-- no list or dict of its own within -/
def D.settled : D → Bool
  | .tup ds => settleds ds
  | .lst _ => false
  | .dct _ _ => false
  | .nd _ _ => false
  | _ => true
def settleds : List D → Bool
  | [] => true
  | d :: ds => d.settled && settleds ds
end
mutual
/-- own lists and dicts are put into the store -/
def settle : D → Sto → D × Sto
  | .tup ds, S => let r := settles ds S; (.tup r.1, r.2)
  | .lst ds, S => let r := settles ds S; (.ref r.2.length, r.2 ++ [.lst r.1])
  | .dct ks vs, S => let r := settles vs S; (.ref r.2.length, r.2 ++ [.dct ks r.1])
  | .nd ks vs, S => let r := settles vs S; (.ref r.2.length, r.2 ++ [.nd ks r.1])
  | d, S => (d, S)
def settles : List D → Sto → List D × Sto
  | [], S => ([], S)
  | d :: ds, S => let r := settle d S; let q := settles ds r.2; (r.1 :: q.1, q.2)
end
mutual
def D.depth : D → Nat
  | .tup ds => depths ds + 1
  | .lst ds => depths ds + 1
  | .fz ds => depths ds + 1
  | .dct ks vs => max (depths ks) (depths vs) + 1
  | .nd ks vs => max (depths ks) (depths vs) + 1
  | _ => 0
def depths : List D → Nat
  | [] => 0
  | d :: ds => max d.depth (depths ds)
end
mutual
/-- == of data without refs -/
def D.eqv : D → D → Bool
  | .non, .non => true
  | .bl a, .bl b => a == b
  | .bl a, .int b => decide ((if a then 1 else 0) = b)
  | .int a, .bl b => decide (a = (if b then 1 else 0))
  | .int a, .int b => decide (a = b)
  | .str a, .str b => decide (a = b)
  | .tup a, .tup b => eqvs a b
  | .lst a, .lst b => eqvs a b
  | _, _ => false
def eqvs : List D → List D → Bool
  | [], [] => true
  | a :: as, b :: bs => a.eqv b && eqvs as bs
  | _, _ => false
end

/-! ### out of the store -/
/-- what is named at or behind b, taken out as own -/
def reify (S : Sto) (b : Nat) : Nat → D → Option D
  | 0, _ => none
  | k + 1, d => if d.under b then some d else match d with
    | .tup ds => (ds.mapM (reify S b k)).map .tup
    | .lst ds => (ds.mapM (reify S b k)).map .lst
    | .dct ks vs => (vs.mapM (reify S b k)).map (.dct ks)
    | .nd ks vs => (vs.mapM (reify S b k)).map (.nd ks)
    | .ref n => match S[n]? with
      | some (.lst ds) => (ds.mapM (reify S b k)).map .lst
      | some (.dct ks vs) => (vs.mapM (reify S b k)).map (.dct ks)
      | some (.nd ks vs) => (vs.mapM (reify S b k)).map (.nd ks)
      | _ => none
    | _ => none
/-- the objects that reify takes out -/
def taken (S : Sto) (b : Nat) : Nat → D → List Nat
  | 0, _ => []
  | k + 1, d => if d.under b then [] else match d with
    | .tup ds => ds.flatMap (taken S b k)
    | .lst ds => ds.flatMap (taken S b k)
    | .dct _ vs => vs.flatMap (taken S b k)
    | .nd _ vs => vs.flatMap (taken S b k)
    | .ref n => match S[n]? with
      | some (.lst ds) => ds.flatMap (taken S b k) ++ [n]
      | some (.dct _ vs) => vs.flatMap (taken S b k) ++ [n]
      | some (.nd _ vs) => vs.flatMap (taken S b k) ++ [n]
      | _ => []
    | _ => []
def closed (b : Nat) (S : Sto) : Bool := unders b (S.take b)
/-- a def is left: its own objects go, what is handed back is the caller's own -/
def leave (b : Nat) (d : D) (S : Sto) : Option (R D) :=
  if closed b S then match reify S b 9 d with
    | some d' => if (taken S b 9 d).Nodup then some (.ok d' (S.take b)) else none
    | none => none
  else some (.ok d S)
def leaveX (b : Nat) (c : Nat) (S : Sto) : Option (R D) := some (.ex c (if closed b S then S.take b else S))

/-- all that is named put in place -/
def res (S : Sto) : Nat → D → Option D
  | 0, _ => none
  | k + 1, d => if d.pure then some d else match d with
    | .tup ds => (ds.mapM (res S k)).map .tup
    | .lst ds => (ds.mapM (res S k)).map .lst
    | .fz ds => (ds.mapM (res S k)).map .lst
    | .ref n => match S[n]? with
      | some (.lst ds) => (ds.mapM (res S k)).map .lst
      | _ => none
    | _ => none

/-! ### primitive operations -/
def listOf (S : Sto) : D → Option (List D)
  | .lst ds => some ds
  | .fz ds => some ds
  | .ref n => match S[n]? with
    | some (.lst ds) => some ds
    | _ => none
  | _ => none
/-- a list that is no locked one -/
def mutOf (S : Sto) : D → Option (List D)
  | .lst ds => some ds
  | .ref n => match S[n]? with
    | some (.lst ds) => some ds
    | _ => none
  | _ => none
def seqOf (S : Sto) : D → Option (List D)
  | .tup ds => some ds
  | d => listOf S d
def dictOf (S : Sto) : D → Option (List D × List D)
  | .dct ks vs => some (ks, vs)
  | .ref n => match S[n]? with
    | some (.dct ks vs) => some (ks, vs)
    | _ => none
  | _ => none
def truth (S : Sto) : D → Option Bool
  | .non => some false
  | .bl b => some b
  | .int i => some (i != 0)
  | .str x => if x.length ≤ 16777216 then some (x.length != 0) else none
  | .tup ds => some (!ds.isEmpty)
  | d => match listOf S d with
    | some ds => some (!ds.isEmpty)
    | none => none
/-- .. dicts too -/
def resD (S : Sto) : Nat → D → Option D
  | 0, _ => none
  | k + 1, d => if d.pure then some d else match d with
    | .tup ds => (ds.mapM (resD S k)).map .tup
    | .dct ks vs => (vs.mapM (resD S k)).map (.dct ks)
    | .nd ks vs => (vs.mapM (resD S k)).map (.nd ks)
    | .ref n => match S[n]? with
      | some (.dct ks vs) => (vs.mapM (resD S k)).map (.dct ks)
      | some (.nd ks vs) => (vs.mapM (resD S k)).map (.nd ks)
      | _ => none
    | _ => none
open Classical in
noncomputable def eqD (S : Sto) (a b : D) : Option Bool := match resD S 60 a, resD S 60 b with
  | some x, some y => if x = y ∧ x.depth ≤ 150 then some true else none
  | _, _ => none
def eqE (S : Sto) (a b : D) : Option Bool := match res S 60 a, res S 60 b with
  | some x, some y => if min x.depth y.depth ≤ 150 then some (x.eqv y) else none
  | _, _ => none

inductive Bin where | add | sub | mul | fdiv | mod | pow
  deriving DecidableEq
inductive Cmp where | eq | ne | lt | le | gt | ge | in_ | notin
  deriving DecidableEq
inductive Ty where | int | str | tuple | list | dict | bool | valueError | cls (c : Nat)
  deriving DecidableEq

def mulOk (i j : Int) : Bool := decide (i.natAbs.log2 + j.natAbs.log2 < 1000000)
def divOk (j : Int) : Bool := decide (j ≠ 0) && decide (j.natAbs.log2 < 9000)
def repL (n : Int) (ds : List D) : List D := (List.replicate n.toNat ds).flatten
def repS (n : Int) (x : Str) : Str := ⟨((List.replicate n.toNat x.cps.toList).flatten).toArray⟩
def lenOk (n : Nat) : Bool := decide (n ≤ 16777216)
def binE (S : Sto) : Bin → D → D → Option D
  | .add, .int i, .int j => some (.int (i + j))
  | .add, .str x, .str y => if lenOk (x.length + y.length) then some (.str (x ++ y)) else none
  | .add, .tup a, .tup b => if lenOk (a.length + b.length) then some (.tup (a ++ b)) else none
  | .add, a, b => match mutOf S a, mutOf S b with
    | some x, some y => if lenOk (x.length + y.length) then some (.lst (x ++ y)) else none
    | _, _ => none
  | .sub, .int i, .int j => some (.int (i - j))
  | .mul, .int i, .int j => if mulOk i j then some (.int (i * j)) else none
  | .mul, .str x, .int n => if decide (0 ≤ n) && decide (n ≤ 1000) && decide (x.length ≤ 1000) then some (.str (repS n x)) else none
  | .mul, .tup a, .int n => if decide (2 ≤ n) && decide (n ≤ 1000) && decide (a.length ≤ 1000) && !a.isEmpty && settleds a then some (.tup (repL n a)) else none
  | .fdiv, .int i, .int j => if divOk j then some (.int (i.fdiv j)) else none
  | .mod, .int i, .int j => if decide (j ≠ 0) then some (.int (i.fmod j)) else none
  | .pow, .int i, .int j => if decide (0 ≤ j) && decide (j ≤ 1000000) && decide (i.natAbs < 2 ^ 64) then some (.int (i ^ j.toNat)) else none
  | _, _, _ => none

/-- the place of an index of any sign -/
def atI {α : Type} (xs : List α) (i : Int) : Option α := if 0 ≤ i then xs[i.toNat]? else if -(xs.length : Int) ≤ i then xs[(i + xs.length).toNat]? else none
def find (ks : List D) (k : D) : Option Nat := ks.findIdx? fun x => x.eqv k
/-- what may be a key of a dict with tuple keys -/
def tkeyOk : D → Bool
  | .tup ks => pures ks && decide (D.depth (.tup ks) ≤ 8)
  | _ => false
/-- a dict with tuple keys (the empty one is both) -/
def ndOf (S : Sto) : D → Option (List D × List D)
  | .nd ks vs => some (ks, vs)
  | .dct [] [] => some ([], [])
  | .ref n => match S[n]? with
    | some (.nd ks vs) => some (ks, vs)
    | some (.dct [] []) => some ([], [])
    | _ => none
  | _ => none
/-- what may be a dict's key -/
def keyOk : D → Bool
  | .int _ => true
  | .str _ => true
  | _ => false
def getK (ks vs : List D) (k : D) : Option D := match find ks k with
  | some i => vs[i]?
  | none => none
def putK (ks vs : List D) (k v : D) : List D × List D := match find ks k with
  | some i => (ks, vs.set i v)
  | none => (ks ++ [k], vs ++ [v])
def resL (S : Sto) (k : Nat) (ds : List D) : Option (List D) := if pures ds then some ds else ds.mapM (res S k)
def inL (S : Sto) (x : D) (ds : List D) : Option Bool := match res S 60 x, resL S 60 ds with
  | some y, some ys => if min (depths ys) y.depth ≤ 150 then some (ys.any fun z => z.eqv y) else none
  | _, _ => none
def intOf : D → Option Int
  | .int i => some i
  | .bl b => some (if b then 1 else 0)
  | _ => none
def strLt (x y : Str) : Bool := decide (x.cps.toList < y.cps.toList)
def ltE (a b : D) : Option Bool := match a, b with
  | .int i, .int j => some (decide (i < j))
  | .str x, .str y => some (strLt x y)
  | _, _ => none
def inStr (x y : Str) : Bool := !(Builtin.Str.occurrences y x 0 y.length 1).isEmpty
def inE (S : Sto) (a b : D) : Option Bool := match b with
  | .str y => match a with
    | .str x => some (inStr x y)
    | _ => none
  | _ => match seqOf S b with
    | some ds => inL S a ds
    | none => match dictOf S b with
      | some (ks, _) => if keyOk a then some (find ks a).isSome else none
      | none => none
/-- .. else as dicts -/
noncomputable def orD (m : Option Bool) (S : Sto) (a b : D) : Option Bool := match m with
  | some k => some k
  | none => eqD S a b
@[simp] theorem orD_some {k : Bool} {S : Sto} {a b : D} : orD (some k) S a b = some k := rfl
noncomputable def cmpE (S : Sto) : Cmp → D → D → Option Bool
  | .eq, a, b => orD (eqE S a b) S a b
  | .ne, a, b => (eqE S a b).map (!·)
  | .lt, a, b => ltE a b
  | .gt, a, b => ltE b a
  | .le, .int i, .int j => some (decide (i ≤ j))
  | .ge, .int i, .int j => some (decide (j ≤ i))
  | .in_, a, b => inE S a b
  | .notin, a, b => (inE S a b).map (!·)
  | _, _, _ => none
def idxE (S : Sto) (a i : D) : Option D := match a with
  | .tup ds => match i with
    | .int k => atI ds k
    | _ => none
  | .str x => match i with
    | .int k => if x.length ≤ 16777216 then (atI x.cps.toList k).map fun c => .str ⟨#[c]⟩ else none
    | _ => none
  | _ => match listOf S a with
    | some ds => match i with
      | .int k => atI ds k
      | _ => none
    | none => match dictOf S a with
      | some (ks, vs) => if keyOk i then getK ks vs i else none
      | none => none
def sIx (n d : Nat) : D → Option Nat
  | .non => some d
  | .int v => some (if v < 0 then (v + (n : Int)).toNat else min v.toNat n)
  | _ => none
def isPart : D → Bool
  | .non => true
  | .int _ => true
  | _ => false
def cut {α : Type} (xs : List α) (i j : Nat) : List α := (xs.drop i).take (j - i)
def slE (S : Sto) (a lo hi : D) : Option D := match a with
  | .tup ds => match sIx ds.length 0 lo, sIx ds.length ds.length hi with
    | some i, some j => some (.tup (cut ds i j))
    | _, _ => none
  | .str x => match sIx x.length 0 lo, sIx x.length x.length hi with
    | some i, some j => if x.length ≤ 16777216 then some (.str ⟨(cut x.cps.toList i j).toArray⟩) else none
    | _, _ => none
  | _ => match listOf S a with
    | some ds => match sIx ds.length 0 lo, sIx ds.length ds.length hi with
      | some i, some j => some (.lst (cut ds i j))
      | _, _ => none
    | none => none

/-- the built-in type of a value -/
inductive VT where | non | bl | int | str | tup | lst | dct
  deriving DecidableEq
def vtOf (S : Sto) : D → Option VT
  | .non => some .non
  | .bl _ => some .bl
  | .int _ => some .int
  | .str _ => some .str
  | .tup _ => some .tup
  | .lst _ => some .lst
  | .fz _ => some .lst
  | .dct _ _ => some .dct
  | .ref n => match S[n]? with
    | some (.lst _) => some .lst
    | some (.dct _ _) => some .dct
    | _ => none
  | .exc _ => none
  | .nd _ _ => none
def isVT (t : Ty) : VT → Option Bool
  | v => match t with
    | .int => some (v == .int || v == .bl)
    | .str => some (v == .str)
    | .tuple => some (v == .tup)
    | .list => some (v == .lst)
    | .dict => some (v == .dct)
    | .bool => some (v == .bl)
    | _ => none
def isTy (isa : Nat → Ty → Bool) (S : Sto) (t : Ty) (d : D) : Option Bool := match d with
  | .exc c => match t with
    | .valueError => some (isa c t)
    | .cls _ => some (isa c t)
    | _ => none
  | _ => match vtOf S d with
    | some v => isVT t v
    | none => none
def isTys (isa : Nat → Ty → Bool) (S : Sto) (d : D) : List Ty → Option Bool
  | [] => some false
  | t :: ts => match isTy isa S t d with
    | some true => some true
    | some false => isTys isa S d ts
    | none => none

inductive Blt where | len | abs | min2 | max2 | maxL | minL | sum | sorted | tuple | list | int | str
  deriving DecidableEq
def intsOf : List D → Option (List Int)
  | [] => some []
  | .int i :: r => (intsOf r).map (i :: ·)
  | _ => none
def strsOf : List D → Option (List Str)
  | [] => some []
  | .str i :: r => (strsOf r).map (i :: ·)
  | _ => none
def sortedStrs (xs : List Str) : List Str := xs.mergeSort fun x y => !strLt y x
def maxOf : List Int → Int
  | [] => 0
  | x :: r => r.foldl max x
def bltE (S : Sto) : Blt → List D → Option D
  | .len, [a] => match a with
    | .str x => if x.length ≤ 16777216 then some (.int x.length) else none
    | _ => match seqOf S a with
      | some ds => some (.int ds.length)
      | none => match dictOf S a with
        | some (ks, _) => some (.int ks.length)
        | none => none
  | .abs, [.int i] => some (.int (if i < 0 then -i else i))
  | .min2, [.int i, .int j] => some (.int (if j < i then j else i))
  | .max2, [.int i, .int j] => some (.int (if j > i then j else i))
  | .maxL, [a] => match (listOf S a).bind intsOf with
    | some (x :: r) => some (.int (maxOf (x :: r)))
    | _ => none
  | .sum, [a] => match (listOf S a).bind intsOf with
    | some ns => some (.int ns.sum)
    | none => none
  | .sorted, [a] => match listOf S a with
    | some ds => match strsOf ds with
      | some xs => if xs.length < 64 then some (.lst ((sortedStrs xs).map .str)) else none
      | none => none
    | none => match dictOf S a with
      | some (ks, _) => match strsOf ks with
        | some xs => if xs.length < 64 then some (.lst ((sortedStrs xs).map .str)) else none
        | none => none
      | none => none
  | .tuple, [a] => (seqOf S a).map .tup
  | .list, [a] => (seqOf S a).map .lst
  | .int, [.int i] => some (.int i)
  | .int, [.bl b] => some (.int (if b then 1 else 0))
  | .int, [.str x] => match PySem.intText? x with
    | some n => if x.length ≤ 640 then some (.int n) else none
    | none => none
  | .str, [.int i] => if i.natAbs.log2 < 1920 then some (.str (toString i)) else none
  | .str, [.str x] => some (.str x)
  | _, _ => none

inductive Mth where | append | pop | extend | join | upper | get | split | startswith | partition
  deriving DecidableEq
def mthE : Mth → D → List D → Sto → Option (D × Sto)
  | .append, .ref n, [v], S => match S[n]? with
    | some (.lst ds) => if ds.length < 16777216 then let r := settle v S; some (.non, r.2.set n (.lst (ds ++ [r.1]))) else none
    | _ => none
  | .pop, .ref n, [], S => match S[n]? with
    | some (.lst ds) => match ds.getLast? with
      | some d => some (d, S.set n (.lst ds.dropLast))
      | none => none
    | _ => none
  | .extend, .ref n, [.tup es], S => match S[n]? with
    | some (.lst ds) => if lenOk (ds.length + es.length) then let r := settles es S; some (.non, r.2.set n (.lst (ds ++ r.1))) else none
    | _ => none
  | .join, .str x, [v], S => match (listOf S v).bind strsOf with
    | some ys => if decide ((ys.map (·.length)).sum + ys.length * x.length ≤ 16777216) then some (.str (Txt.join x ys), S) else none
    | none => none
  | .upper, .str x, [], S => if x.length ≤ 5592405 then some (.str (Txt.upper x), S) else none
  | .get, d, [k, v], S => match dictOf S d with
    | some (ks, vs) => if keyOk k then some ((getK ks vs k).getD v, S) else match ndOf S d with
      | some (ks, vs) => if tkeyOk k then some ((getK ks vs k).getD v, S) else none
      | none => none
    | none => match ndOf S d with
      | some (ks, vs) => if tkeyOk k then some ((getK ks vs k).getD v, S) else none
      | none => none
  | .split, .str x, [.str y], S => if (y.length == 0) = false ∧ x.length + 2 ≤ 16777216 then some (.lst ((Txt.split x y).map .str), S) else none
  | .startswith, .str x, [.str y], S => some (.bl (Txt.startswith x y), S)
  | .partition, .str x, [.str y], S => if (y.length == 0) = false ∧ x.length ≤ 16777216 then some (.tup [.str (Txt.partition x y).1, .str (Txt.partition x y).2.1, .str (Txt.partition x y).2.2], S) else none
  | _, _, _, _ => none

/-- what a method is called on -/
def recvOk : Mth → D → Sto → Bool
  | .append, d, S => (listOf S d).isSome
  | .pop, d, S => (listOf S d).isSome
  | .extend, d, S => (listOf S d).isSome
  | .join, .str _, _ => true
  | .upper, .str _, _ => true
  | .get, d, S => (dictOf S d).isSome || (ndOf S d).isSome
  | .split, .str _, _ => true
  | .startswith, .str _, _ => true
  | .partition, .str _, _ => true
  | _, _, _ => false
/-! ### the syntax -/
inductive ItK where | val | rng1 | rng2 | zip | enum | items
  deriving DecidableEq
inductive Tg where | nm (i : Nat) | tp (is : List Nat)
inductive PE where
  | var (i : Nat) | cst (d : D)
  | tup (es : List PE) | lst (es : List PE) | dct0
  | bin (o : Bin) (a b : PE) | neg (a : PE) | not (a : PE) | and (a b : PE) | or (a b : PE)
  | cmp (o : Cmp) (a b : PE) | cmp2 (o o' : Cmp) (a b c : PE)
  | is_ (neg : Bool) (a : PE) (c : D)
  | ife (c a b : PE)
  | idx (a i : PE) | sl (a lo hi : PE)
  | call (f : Nat) (es : List PE) | blt (b : Blt) (es : List PE) | mth (m : Mth) (o : PE) (es : List PE)
  | isi (a : PE) (ts : List Ty)
  | comp (tg : Tg) (k : ItK) (es : List PE) (ifs : List PE) (elt : PE)
inductive PS where
  | set (i : Nat) (e : PE) | setT (is : List Nat) (e : PE) | par (is : List Nat) (es : List PE) | setI (o i v : PE)
  | aug (i : Nat) (o : Bin) (e : PE)
  | expr (e : PE) | ret (e : PE)
  | ife (c : PE) (a b : List PS)
  | for_ (tg : Tg) (k : ItK) (es : List PE) (body : List PS)
  | while_ (c : PE) (body : List PS)
  | raise (c : Nat)
  | try_ (body : List PS) (c : Nat) (i j : Nat)
  | augL (i : Nat) (e : PE)
  | tryS (i : Nat) (e : PE) (c : Nat)

structure G where
  F : Nat → List D → Sto → Option (R D)
  isa : Nat → Ty → Bool

def tests {α : Type} (m : Option (R D)) (f : Bool → Sto → Option α) (g : Nat → Sto → Option α) : Option α := match m with
  | some (.ok d S) => match truth S d with
    | some b => f b S
    | none => none
  | some (.ex c S) => g c S
  | none => none
section
variable {α : Type} {f : Bool → Sto → Option α} {g : Nat → Sto → Option α}
@[simp] theorem tests_ok {d : D} {S : Sto} : tests (some (.ok d S)) f g = match truth S d with | some b => f b S | none => none := rfl
@[simp] theorem tests_ex {c : Nat} {S : Sto} : tests (some (.ex c S)) f g = g c S := rfl
@[simp] theorem tests_none : tests none f g = none := rfl
end

/-- what a for walks: the items; the object that has to stay as it is -/
def itemsOf (S : Sto) : ItK → List D → Option (List D × Option (Nat × List D))
  | .val, [.tup ds] => some (ds, none)
  | .val, [.lst ds] => some (ds, none)
  | .val, [.fz ds] => some (ds, none)
  | .val, [.str x] => if x.length ≤ 16777216 then some (x.cps.toList.map fun c => .str ⟨#[c]⟩, none) else none
  | .val, [.ref n] => match S[n]? with
    | some (.lst ds) => some (ds, some (n, ds))
    | _ => none
  | .rng1, [.int j] => if decide (j ≤ 1000000) && decide (-1000000 ≤ j) then some ((List.range j.toNat).map fun (k : Nat) => .int k, none) else none
  | .rng2, [.int i, .int j] => if decide (j ≤ 1000000) && decide (-1000000 ≤ j) && decide (i ≤ 1000000) && decide (-1000000 ≤ i) then some ((List.range (j - i).toNat).map fun (k : Nat) => .int (i + k), none) else none
  | .zip, [.tup a, .tup b] => if settleds a && settleds b then some (a.zipWith (fun x y => .tup [x, y]) b, none) else none
  | _, _ => none
/-- the walked list stands as it stood -/
def stays (lk : Option (Nat × List D)) (S : Sto) : Prop := match lk with
  | none => True
  | some (n, ds) => S[n]? = some (.lst ds)
open Classical in
noncomputable def guardS {α : Type} (lk : Option (Nat × List D)) (S : Sto) (x : Option α) : Option α := if stays lk S then x else none

def setNames : List Nat → List D → Env → Option Env
  | [], [], ρ => some ρ
  | i :: is, d :: ds, ρ => setNames is ds (ρ.set i (some d))
  | _, _, _ => none
/-- a target is given a value -/
def setTg (tg : Tg) (d : D) (ρ : Env) (S : Sto) : Option (Env × Sto) := match tg with
  | .nm i => let r := settle d S; some (ρ.set i (some r.1), r.2)
  | .tp is => match d with
    | .tup ds => let r := settles ds S; (setNames is r.1 ρ).map fun ρ' => (ρ', r.2)
    | _ => none
/-- .. where nothing may be raised -/
def bndN {α β : Type} (m : Option (R α)) (f : α → Sto → Option β) : Option β := match m with
  | some (.ok a S) => f a S
  | _ => none
@[simp] theorem bndN_ok {α β : Type} {a : α} {S : Sto} {f : α → Sto → Option β} : bndN (some (.ok a S)) f = f a S := rfl
@[simp] theorem bndN_ex {α β : Type} {c : Nat} {S : Sto} {f : α → Sto → Option β} : bndN (some (.ex c S)) f = none := rfl
@[simp] theorem bndN_none {α β : Type} {f : α → Sto → Option β} : bndN none f = none := rfl
noncomputable def compL (lk : Option (Nat × List D)) (f : D → Sto → Option (R (Option D))) : List D → Sto → Option (List D × Sto)
  | [], S => guardS lk S (some ([], S))
  | d :: ds, S => guardS lk S (bndN (f d S) fun x S => (compL lk f ds S).map fun r => (match x with | some y => y :: r.1 | none => r.1, r.2))

/-- x is c, x is not c, c written: None, True or False -/
def isC (ng : Bool) : D → D → Option Bool
  | .non, .non => some (!ng)
  | .bl b, .bl b' => some (ng != (b == b'))
  | .non, _ => some ng
  | .bl _, _ => some ng
  | _, _ => none
mutual
noncomputable def evalE (g : G) : PE → Env → Sto → Option (R D)
  | .var i, ρ, S => match ρ[i]? with
    | some (some d) => some (.ok d S)
    | _ => none
  | .cst d, _, S => some (.ok d S)
  | .tup es, ρ, S => bnd (evalEs g es ρ S) fun ds S => some (.ok (.tup ds) S)
  | .lst es, ρ, S => bnd (evalEs g es ρ S) fun ds S => some (.ok (.lst ds) S)
  | .dct0, _, S => some (.ok (.dct [] []) S)
  | .bin o a b, ρ, S => bnd (evalE g a ρ S) fun x S => bnd (evalE g b ρ S) fun y S => (binE S o x y).map fun z => .ok z S
  | .neg a, ρ, S => bnd (evalE g a ρ S) fun x S => match x with
    | .int i => some (.ok (.int (-i)) S)
    | _ => none
  | .not a, ρ, S => tests (evalE g a ρ S) (fun b S => some (.ok (.bl (!b)) S)) fun c S => some (.ex c S)
  | .and a b, ρ, S => bnd (evalE g a ρ S) fun x S => match truth S x with
    | some true => evalE g b ρ S
    | some false => some (.ok x S)
    | none => none
  | .or a b, ρ, S => bnd (evalE g a ρ S) fun x S => match truth S x with
    | some true => some (.ok x S)
    | some false => evalE g b ρ S
    | none => none
  | .cmp o a b, ρ, S => bnd (evalE g a ρ S) fun x S => bnd (evalE g b ρ S) fun y S => (cmpE S o x y).map fun z => .ok (.bl z) S
  | .cmp2 o o' a b c, ρ, S => bnd (evalE g a ρ S) fun x S => bnd (evalE g b ρ S) fun y S => match cmpE S o x y with
    | some true => bnd (evalE g c ρ S) fun z S => (cmpE S o' y z).map fun u => .ok (.bl u) S
    | some false => some (.ok (.bl false) S)
    | none => none
  | .is_ n a c, ρ, S => bnd (evalE g a ρ S) fun x S => (isC n c x).map fun b => .ok (.bl b) S
  | .ife c a b, ρ, S => tests (evalE g c ρ S) (fun t S => if t then evalE g a ρ S else evalE g b ρ S) fun c S => some (.ex c S)
  | .idx a i, ρ, S => bnd (evalE g a ρ S) fun x S => bnd (evalE g i ρ S) fun y S => (idxE S x y).map fun z => .ok z S
  | .sl a lo hi, ρ, S => bnd (evalE g a ρ S) fun x S => bnd (evalE g lo ρ S) fun l S => if isPart l then bnd (evalE g hi ρ S) fun h S => (slE S x l h).map fun z => .ok z S else none
  | .call f es, ρ, S => bnd (evalEs g es ρ S) fun ds S => g.F f ds S
  | .blt b es, ρ, S => bnd (evalEs g es ρ S) fun ds S => (bltE S b ds).map fun z => .ok z S
  | .mth m o es, ρ, S => bnd (evalE g o ρ S) fun x S => if recvOk m x S then bnd (evalEs g es ρ S) fun ds S => (mthE m x ds S).map fun r => .ok r.1 r.2 else none
  | .isi a ts, ρ, S => bnd (evalE g a ρ S) fun x S => (isTys g.isa S x ts).map fun b => .ok (.bl b) S
  | .comp tg k es ifs elt, ρ, S => bnd (evalEs g es ρ S) fun ds S => match itemsOf S k ds with
    | some (its, lk) => (compL lk (fun d S => match setTg tg d ρ S with
        | some (ρ', S) => bnd (evalIfs g ifs ρ' S) fun b S => if b then bnd (evalE g elt ρ' S) fun x S => some (.ok (some x) S) else some (.ok none S)
        | none => none) its S).map fun r => .ok (.lst r.1) r.2
    | none => none
noncomputable def evalEs (g : G) : List PE → Env → Sto → Option (R (List D))
  | [], _, S => some (.ok [] S)
  | e :: es, ρ, S => bnd (evalE g e ρ S) fun d S => bnd (evalEs g es ρ S) fun ds S => some (.ok (d :: ds) S)
noncomputable def evalIfs (g : G) : List PE → Env → Sto → Option (R Bool)
  | [], _, S => some (.ok true S)
  | e :: es, ρ, S => tests (evalE g e ρ S) (fun b S => if b then evalIfs g es ρ S else some (.ok false S)) fun c S => some (.ex c S)
end

inductive Fl where
  | nx (ρ : Env)
  | ret (d : D)
  | ex (c : Nat)

def bndS {α : Type} (m : Option (R α)) (f : α → Sto → Option (Fl × Sto)) : Option (Fl × Sto) := match m with
  | some (.ok a S) => f a S
  | some (.ex c S) => some (.ex c, S)
  | none => none
def seqS (m : Option (Fl × Sto)) (f : Env → Sto → Option (Fl × Sto)) : Option (Fl × Sto) := match m with
  | some (.nx ρ, S) => f ρ S
  | r => r
section
variable {α : Type}
@[simp] theorem bndS_ok {a : α} {S : Sto} {f : α → Sto → Option (Fl × Sto)} : bndS (some (.ok a S)) f = f a S := rfl
@[simp] theorem bndS_ex {c : Nat} {S : Sto} {f : α → Sto → Option (Fl × Sto)} : bndS (some (.ex c S)) f = some (.ex c, S) := rfl
@[simp] theorem bndS_none {f : α → Sto → Option (Fl × Sto)} : bndS none f = none := rfl
@[simp] theorem seqS_nx {ρ : Env} {S : Sto} {f : Env → Sto → Option (Fl × Sto)} : seqS (some (.nx ρ, S)) f = f ρ S := rfl
@[simp] theorem seqS_ret {d : D} {S : Sto} {f : Env → Sto → Option (Fl × Sto)} : seqS (some (.ret d, S)) f = some (.ret d, S) := rfl
@[simp] theorem seqS_ex {c : Nat} {S : Sto} {f : Env → Sto → Option (Fl × Sto)} : seqS (some (.ex c, S)) f = some (.ex c, S) := rfl
@[simp] theorem seqS_none {f : Env → Sto → Option (Fl × Sto)} : seqS none f = none := rfl
end

noncomputable def forL (lk : Option (Nat × List D)) (f : D → Env → Sto → Option (Fl × Sto)) : List D → Env → Sto → Option (Fl × Sto)
  | [], ρ, S => guardS lk S (some (.nx ρ, S))
  | d :: ds, ρ, S => guardS lk S (seqS (f d ρ S) fun ρ S => forL lk f ds ρ S)
def whileL (c : Env → Sto → Option (R D)) (b : Env → Sto → Option (Fl × Sto)) (ρ : Env) (S : Sto) : Option (Fl × Sto) :=
  match c ρ S with
  | none => none
  | some (.ex x S) => some (.ex x, S)
  | some (.ok d S) => match truth S d with
    | none => none
    | some false => some (.nx ρ, S)
    | some true => match b ρ S with
      | none => none
      | some (.ret d, S) => some (.ret d, S)
      | some (.ex x, S) => some (.ex x, S)
      | some (.nx ρ', S') => whileL c b ρ' S'
partial_fixpoint

def setItE (o i v : D) (S : Sto) : Option Sto := match o with
  | .ref n => match S[n]? with
    | some (.lst ds) => match i with
      | .int k => let r := settle v S; if 0 ≤ k ∧ k < ds.length then some (r.2.set n (.lst (ds.set k.toNat r.1))) else none
      | _ => none
    | some (.dct ks vs) => if keyOk i && decide (ks.length < 16777216) then let r := settle v S; let q := putK ks vs i r.1; some (r.2.set n (.dct q.1 q.2)) else
        if tkeyOk i && ks.isEmpty && vs.isEmpty then let r := settle v S; some (r.2.set n (.nd [i] [r.1])) else none
    | some (.nd ks vs) => if tkeyOk i && decide (ks.length < 16777216) then let r := settle v S; let q := putK ks vs i r.1; some (r.2.set n (.nd q.1 q.2)) else none
    | _ => none
  | _ => none

mutual
noncomputable def execS (g : G) : PS → Env → Sto → Option (Fl × Sto)
  | .set i e, ρ, S => bndS (evalE g e ρ S) fun d S => let r := settle d S; some (.nx (ρ.set i (some r.1)), r.2)
  | .setT is e, ρ, S => bndS (evalE g e ρ S) fun d S => match setTg (.tp is) d ρ S with
    | some (ρ', S) => some (.nx ρ', S)
    | none => none
  | .par is es, ρ, S => bndS (evalEs g es ρ S) fun ds S => match setTg (.tp is) (.tup ds) ρ S with
    | some (ρ', S) => some (.nx ρ', S)
    | none => none
  | .setI o i v, ρ, S => bndS (evalE g v ρ S) fun x S => bndS (evalE g o ρ S) fun a S => bndS (evalE g i ρ S) fun k S => (setItE a k x S).map fun S => (.nx ρ, S)
  | .aug i o e, ρ, S => match ρ[i]? with
    | some (some x) => bndS (evalE g e ρ S) fun y S => match x, y with
      | .int _, .int _ => (binE S o x y).map fun z => (.nx (ρ.set i (some z)), S)
      | _, _ => none
    | _ => none
  | .expr e, ρ, S => bndS (evalE g e ρ S) fun _ S => some (.nx ρ, S)
  | .ret e, ρ, S => bndS (evalE g e ρ S) fun d S => some (.ret d, S)
  | .ife c a b, ρ, S => tests (evalE g c ρ S) (fun t S => if t then execB g a ρ S else execB g b ρ S) fun c S => some (.ex c, S)
  | .for_ tg k es body, ρ, S => bndS (evalEs g es ρ S) fun ds S => match itemsOf S k ds with
    | some (its, lk) => forL lk (fun d ρ S => match setTg tg d ρ S with
        | some (ρ', S) => execB g body ρ' S
        | none => none) its ρ S
    | none => none
  | .while_ c body, ρ, S => whileL (fun ρ S => evalE g c ρ S) (fun ρ S => execB g body ρ S) ρ S
  | .raise c, _, S => some (.ex c, S)
  | .try_ body c i j, ρ, S => match execB g body ρ S with
    | some (.ex x, S) => if g.isa x (.cls c) then some (.nx ((ρ.set i (some (.exc x))).set j none), S) else some (.ex x, S)
    | r => r
  | .augL i e, ρ, S => match ρ[i]? with
    | some (some (.ref n)) => bndS (evalE g e ρ S) fun y S => match y with
      | .lst es => match S[n]? with
        | some (.lst ds) => if lenOk (ds.length + es.length) then some (.nx ρ, (settles es S).2.set n (.lst (ds ++ (settles es S).1))) else none
        | _ => none
      | _ => none
    | _ => none
  | .tryS i e c, ρ, S => match evalE g e ρ S with
    | some (.ok d S) => some (.nx (ρ.set i (some (settle d S).1)), (settle d S).2)
    | some (.ex x S) => if g.isa x (.cls c) then none else some (.ex x, S)
    | none => none
noncomputable def execB (g : G) : List PS → Env → Sto → Option (Fl × Sto)
  | [], ρ, S => some (.nx ρ, S)
  | s :: ss, ρ, S => seqS (execS g s ρ S) fun ρ S => execB g ss ρ S
end

structure Fn where
  np : Nat
  ns : Nat
  body : List PS
def startE (ns : Nat) (ds : List D) : Env := ds.map some ++ List.replicate (ns - ds.length) none
/-- the def f called, at most n calls one in another -/
noncomputable def callN (fns : List Fn) (isa : Nat → Ty → Bool) : Nat → Nat → List D → Sto → Option (R D)
  | 0, _, _, _ => none
  | n + 1, f, ds, S => match fns[f]? with
    | none => none
    | some fd => if ds.length = fd.np then
        match execB ⟨callN fns isa n, isa⟩ fd.body (startE fd.ns (settles ds S).1) (settles ds S).2 with
        | some (.nx _, S') => leave S.length .non S'
        | some (.ret d, S') => leave S.length d S'
        | some (.ex c, S') => leaveX S.length c S'
        | none => none
      else none
end Ev
end
section
set_option Elab.async false
set_option linter.all false
namespace Ev
/-! the exception classes: the first is the base of all others -/
def cIx (k c : Nat) : Nat := if c < k then c else 0
def isaX (k : Nat) (c : Nat) : Ty → Bool
  | .cls c' => cIx k c' == 0 || cIx k c == cIx k c'
  | .valueError => true
  | _ => false
end Ev
end
section
set_option Elab.async false
set_option linter.all false
set_option maxRecDepth 100000
namespace Ev
open PySem PySem.Spec PyProof.Rows L2
abbrev Slots := List (Option V)
/-- a list that is never changed -/
def FzAt (K : PySem.W.Frag) (H : Hp) (a : Addr) (xs : List V) : Prop := (∃ o, H a = some (.frz o (.lst xs))) ∨ ∃ (o : Obj) (its : Array Value) (n : Nat), K.lookup a = some o ∧ o.cls = .type "list" ∧ o.dict = none ∧ o.data = .seq its n ∧ its.size ≤ sizeLine ∧ Vals xs its.toList
theorem FzAt.sq {K : PySem.W.Frag} {H : Hp} {a : Addr} {xs : List V} (h : FzAt K H a xs) : SqL K H a xs := h.elim (fun ⟨o, e⟩ => .inl (.inr ⟨o, e⟩)) .inr

/-- what is fixed through a program: the written part, the world, where the classes stand -/
structure Pgm where
  K : PySem.W.Frag
  w : World
  C : Nat → Addr

def excHO (C a : Addr) : HO := .ext fun h => ∃ o vs, h.get? a = some o ∧ o.cls = .ref C ∧ o.dict = none ∧ o.data = .fields vs
def keyD : Key → D
  | .inl i => .int i
  | .inr x => .str x

mutual
/-- a pure value as a key -/
def D.nk : D → NestedKey
  | .bl b => .num (if b = true then 1 else 0)
  | .int i => .num i
  | .str x => .text x
  | .tup ds => .tup (nks ds)
  | _ => .none
def nks : List D → List NestedKey
  | [] => []
  | d :: ds => d.nk :: nks ds
end
/-- a dict with nested tuples for keys: the keys, where they stand, the values -/
def NdE (w : World) (h : Heap) (a : Addr) (ys : List (NestedKey × Addr × Value)) : Prop :=
  ∃ o es ep, h.get? a = some o ∧ o.ExactDict ∧ o.data = .dict es ep ∧ es.toList = ys.map (fun y => (⟨y.1.hash w, .ref y.2.1, y.2.2⟩ : DictEntry)) ∧ (ys.map (·.1)).Nodup
def ndHO (w : World) (a : Addr) (xs : List (NestedKey × Addr × V)) : HO := .ext fun h => (a == sysModules) = false ∧ xs.length ≤ sizeLine ∧
  ∃ ys : List (NestedKey × Addr × Value), Paired (fun (p : NestedKey × Addr × V) (q : NestedKey × Addr × Value) => p.1 = q.1 ∧ p.2.1 = q.2.1 ∧ RelV p.2.2 q.2.2) xs ys ∧ NdE w h a ys
theorem nd_ne_exc {w : World} {a c : Addr} {xs : List (NestedKey × Addr × V)} : ndHO w a xs ≠ excHO c a := fun e => by
  unfold ndHO excHO at e
  injection e with e
  let o : Obj := { cls := .ref c, data := .fields #[] }
  let h : Heap := { objs := Array.replicate (a + 1) o }
  have hg : h.get? a = some o := by
    unfold Heap.get?
    simp [h, o]
  have := congrFun e h
  obtain ⟨_, _, ys, _, o', es, ep, h1, _, h3, _⟩ := this.mpr ⟨o, #[], hg, rfl, rfl, rfl⟩
  rw [hg] at h1; cases h1; cases h3
/-- at a stands a dict with these tuples for keys -/
def NdAt (w : World) (H : Hp) (a : Addr) (ks : List D) (xs : List (NestedKey × Addr × V)) : Prop :=
  H a = some (ndHO w a xs) ∧ xs.map (·.1) = ks.map D.nk ∧ ∀ k ∈ ks, tkeyOk k = true
section
variable (T : Pgm) (H : Hp) (μ : List Addr)
/-- at a stands a dict with these keys and values -/
def DictAt (a : Addr) (ks : List D) (us : List V) : Prop := ∃ kvs : List (Key × V), H a = some (.dK kvs) ∧ ks = kvs.map (fun p => keyD p.1) ∧ us = kvs.map (·.2) ∧ (kvs.map (·.1)).Nodup
mutual
/-- d is what v stands for; fp: the objects that it holds alone, in the order in which settle lays them -/
def Rep : D → V → List Addr → Prop
  | .non, v, fp => v = .non ∧ fp = []
  | .bl b, v, fp => v = .bl b ∧ fp = []
  | .int i, v, fp => v = .int i ∧ fp = []
  | .str x, v, fp => v = .str x ∧ fp = []
  | .tup ds, v, fp => ∃ a vs, v = .ref a ∧ SqT T.K H a vs ∧ Reps ds vs fp
  | .lst ds, v, fp => ∃ a vs fp', v = .ref a ∧ H a = some (.lst vs) ∧ Reps ds vs fp' ∧ fp = fp' ++ [a]
  | .fz ds, v, fp => ∃ a vs, v = .ref a ∧ FzAt T.K H a vs ∧ Reps ds vs fp ∧ fp = []
  | .dct ks vs, v, fp => ∃ a us fp', v = .ref a ∧ DictAt H a ks us ∧ Reps vs us fp' ∧ fp = fp' ++ [a]
  | .nd ks vs, v, fp => ∃ a xs fp', v = .ref a ∧ NdAt T.w H a ks xs ∧ Reps ks (xs.map fun x => .ref x.2.1) [] ∧ Reps vs (xs.map (·.2.2)) fp' ∧ fp = fp' ++ [a]
  | .ref n, v, fp => ∃ a, v = .ref a ∧ μ[n]? = some a ∧ fp = []
  | .exc c, v, fp => ∃ a, v = .ref a ∧ H a = some (excHO (T.C c) a) ∧ (a ∉ μ ∧ T.C c ≠ 0) ∧ fp = []
def Reps : List D → List V → List Addr → Prop
  | [], vs, fp => vs = [] ∧ fp = []
  | d :: ds, vs, fp => ∃ v r f1 f2, vs = v :: r ∧ Rep d v f1 ∧ Reps ds r f2 ∧ fp = f1 ++ f2
end
def ObjAt : D → Addr → Prop
  | .lst ds, a => ∃ vs, H a = some (.lst vs) ∧ Reps T H μ ds vs []
  | .dct ks vs, a => ∃ us, DictAt H a ks us ∧ Reps T H μ vs us []
  | .nd ks vs, a => ∃ xs, NdAt T.w H a ks xs ∧ Reps T H μ ks (xs.map fun x => .ref x.2.1) [] ∧ Reps T H μ vs (xs.map (·.2.2)) []
  | _, _ => False
structure StOk (S : Sto) : Prop where
  len : S.length = μ.length
  nd : μ.Nodup
  at_ : ∀ (n : Nat) (d : D) (a : Addr), S[n]? = some d → μ[n]? = some a → ObjAt T H μ d a
def EnvOk (σ : Slots) (ρ : Env) : Prop := σ.length = ρ.length ∧ ∀ (i : Nat) (d : D), ρ[i]? = some (some d) → ∃ v, σ[i]? = some (some v) ∧ Rep T H μ d v []
end

/-- from (H, μ) on to (H', μ'): what is not in μ stays -/
structure Stp (H : Hp) (μ : List Addr) (H' : Hp) (μ' : List Addr) : Prop where
  ext : ∃ e, μ' = μ ++ e ∧ ∀ a ∈ e, H a = none
  fr : ∀ b o, H b = some o → b ∉ μ → H' b = some o
  dom : ∀ b o, H b = some o → ∃ o', H' b = some o'

section
variable {T : Pgm} {H H1 H2 H' : Hp} {μ μ1 μ2 μ' : List Addr} {S : Sto}
theorem Stp.refl : Stp H μ H μ := ⟨⟨[], by simp, by simp⟩, fun _ _ h _ => h, fun _ o h => ⟨o, h⟩⟩
theorem Stp.mem (s : Stp H μ H1 μ1) {a : Addr} (h : a ∈ μ) : a ∈ μ1 := by
  obtain ⟨e, rfl, _⟩ := s.ext
  exact List.mem_append_left _ h
theorem Stp.new (s : Stp H μ H1 μ1) {a : Addr} (h : a ∈ μ1) (n : a ∉ μ) : H a = none := by
  obtain ⟨e, rfl, f⟩ := s.ext
  exact f a ((List.mem_append.mp h).resolve_left n)
theorem Stp.free (s : Stp H μ H1 μ1) {a : Addr} (h : H1 a = none) : H a = none := by
  cases q : H a with
  | none => rfl
  | some o =>
    obtain ⟨o', e⟩ := s.dom a o q
    rw [h] at e; cases e
theorem Stp.trans (a : Stp H μ H1 μ1) (b : Stp H1 μ1 H2 μ2) : Stp H μ H2 μ2 := by
  refine ⟨?_, fun c o h n => ?_, fun c o h => ?_⟩
  · obtain ⟨e, rfl, f⟩ := a.ext
    obtain ⟨e', rfl, f'⟩ := b.ext
    refine ⟨e ++ e', by simp, fun x hx => ?_⟩
    rcases List.mem_append.mp hx with hx | hx
    · exact f x hx
    · exact a.free (f' x hx)
  · refine b.fr c o (a.fr c o h n) fun m => ?_
    rw [a.new m n] at h; cases h
  · obtain ⟨o', e⟩ := a.dom c o h
    exact b.dom c o' e
theorem Stp.get (s : Stp H μ H1 μ1) {n : Nat} {a : Addr} (h : μ[n]? = some a) : μ1[n]? = some a := by
  obtain ⟨e, rfl, _⟩ := s.ext
  rw [List.getElem?_append_left (List.getElem?_eq_some_iff.mp h).1]
  exact h
/-- a new object that is tracked, outside of the store -/
theorem Stp.upd {p : Addr} {o : HO} (n : H p = none) : Stp H μ (upd H p o) μ := ⟨⟨[], by simp, by simp⟩, fun b u h _ => by
  rw [upd_ne (ne_of_none h n)]
  exact h, fun b u h => by
  rw [upd_ne (ne_of_none h n)]
  exact ⟨u, h⟩⟩
end

/-- what stands in the store is a list or a dict -/
def Kinds (H : Hp) (μ : List Addr) : Prop := ∀ a ∈ μ, (∃ vs, H a = some (.lst vs)) ∨ (∃ kvs, H a = some (.dK kvs)) ∨ ∃ p : World × List (NestedKey × Addr × V), H a = some (ndHO p.1 a p.2)
section
variable {T : Pgm} {H H' : Hp} {μ μ' : List Addr} {S : Sto}
theorem StOk.kinds (h : StOk T H μ S) : Kinds H μ := fun a ha => by
  obtain ⟨n, hn, e⟩ := List.mem_iff_getElem.mp ha
  have hS : n < S.length := by rw [h.len]; exact hn
  have := h.at_ n S[n] a (List.getElem?_eq_getElem hS) (by rw [List.getElem?_eq_getElem hn, e])
  unfold ObjAt at this
  split at this
  · obtain ⟨vs, e, _⟩ := this; exact .inl ⟨vs, e⟩
  · obtain ⟨us, ⟨es, e, _⟩, _⟩ := this; exact .inr (.inl ⟨_, e⟩)
  · obtain ⟨xs, ⟨e, _⟩, _⟩ := this; exact .inr (.inr ⟨(_, _), e⟩)
  · exact this.elim
/-- a tuple is not in the store -/
theorem SqT.out {a : Addr} {vs : List V} {K : PySem.W.Frag} (k : Kinds H μ) (h : SqT K H a vs) : (∃ o, H a = some o ∧ a ∉ μ) ∨ ∀ H', SqT K H' a vs := by
  rcases h with (h | ⟨o, h⟩) | h
  · exact .inl ⟨_, h, fun m => by rcases k a m with ⟨_, e⟩ | ⟨_, e⟩ | ⟨_, e⟩ <;> (rw [h] at e; cases e)⟩
  · exact .inl ⟨_, h, fun m => by rcases k a m with ⟨_, e⟩ | ⟨_, e⟩ | ⟨_, e⟩ <;> (rw [h] at e; cases e)⟩
  · exact .inr fun _ => .inr h
theorem SqT.keep {a : Addr} {vs : List V} {K : PySem.W.Frag} (k : Kinds H μ) (fr : ∀ b o, H b = some o → b ∉ μ → H' b = some o) (h : SqT K H a vs) : SqT K H' a vs := by
  rcases SqT.out k h with ⟨o, e, n⟩ | q
  · have e' := fr a o e n
    rcases h with (h | ⟨o2, h⟩) | h
    · rw [h] at e; cases e; exact .inl (.inl e')
    · rw [h] at e; cases e; exact .inl (.inr ⟨_, e'⟩)
    · exact .inr h
  · exact q H'
theorem FzAt.keep {a : Addr} {vs : List V} {K : PySem.W.Frag} (k : Kinds H μ) (fr : ∀ b o, H b = some o → b ∉ μ → H' b = some o) (h : FzAt K H a vs) : FzAt K H' a vs := by
  rcases h with ⟨o, h⟩ | h
  · exact .inl ⟨o, fr _ _ h fun m => by rcases k a m with ⟨_, e⟩ | ⟨_, e⟩ | ⟨_, e⟩ <;> (rw [h] at e; cases e)⟩
  · exact .inr h
theorem DictAt.keep {a : Addr} {ks : List D} {us : List V} (e : H' a = H a) (h : DictAt H a ks us) : DictAt H' a ks us := by
  obtain ⟨es, h1, h2⟩ := h
  exact ⟨es, e.trans h1, h2⟩
section
variable {ν : List Addr}
mutual
theorem Rep.keepG (k : Kinds H ν) (fr : ∀ b o, H b = some o → b ∉ ν → H' b = some o) (gt : ∀ (n : Nat) a, μ[n]? = some a → μ'[n]? = some a) (hx : ∀ a c, H a = some (excHO c a) → a ∉ μ → a ∉ μ' ∧ a ∉ ν) :
    ∀ (d : D) (v : V) (fp : List Addr), Rep T H μ d v fp → (∀ a ∈ fp, a ∉ ν) → Rep T H' μ' d v fp
  | .non, v, fp, h, _ => h
  | .bl _, v, fp, h, _ => h
  | .int _, v, fp, h, _ => h
  | .str _, v, fp, h, _ => h
  | .tup ds, v, fp, h, n => by
    obtain ⟨a, vs, e, q, r⟩ := h
    exact ⟨a, vs, e, SqT.keep k fr q, Reps.keepG k fr gt hx ds vs fp r n⟩
  | .lst ds, v, fp, h, n => by
    obtain ⟨a, vs, fp', e, q, r, rfl⟩ := h
    exact ⟨a, vs, fp', e, fr _ _ q (n a (by simp)), Reps.keepG k fr gt hx ds vs fp' r fun b hb => n b (List.mem_append_left _ hb), rfl⟩
  | .fz ds, v, fp, h, n => by
    obtain ⟨a, vs, e, q, r, z⟩ := h
    exact ⟨a, vs, e, FzAt.keep k fr q, Reps.keepG k fr gt hx ds vs fp r n, z⟩
  | .dct ks ds, v, fp, h, n => by
    obtain ⟨a, us, fp', e, q, r, rfl⟩ := h
    refine ⟨a, us, fp', e, DictAt.keep ?_ q, Reps.keepG k fr gt hx ds us fp' r fun b hb => n b (List.mem_append_left _ hb), rfl⟩
    obtain ⟨es, q, _⟩ := q
    rw [q]; exact fr _ _ q (n a (by simp))
  | .nd ks ds, v, fp, h, n => by
    obtain ⟨a, xs, fp', e, q, rk, r, rfl⟩ := h
    exact ⟨a, xs, fp', e, ⟨fr _ _ q.1 (n a (by simp)), q.2⟩, Reps.keepG k fr gt hx ks _ _ rk (by simp), Reps.keepG k fr gt hx ds _ fp' r fun b hb => n b (List.mem_append_left _ hb), rfl⟩
  | .ref i, v, fp, h, _ => by
    obtain ⟨a, e, q, z⟩ := h
    exact ⟨a, e, gt _ _ q, z⟩
  | .exc c, v, fp, h, _ => by
    obtain ⟨a, e, q, na, z⟩ := h
    obtain ⟨h1, h2⟩ := hx a _ q na.1
    exact ⟨a, e, fr _ _ q h2, ⟨h1, na.2⟩, z⟩
theorem Reps.keepG (k : Kinds H ν) (fr : ∀ b o, H b = some o → b ∉ ν → H' b = some o) (gt : ∀ (n : Nat) a, μ[n]? = some a → μ'[n]? = some a) (hx : ∀ a c, H a = some (excHO c a) → a ∉ μ → a ∉ μ' ∧ a ∉ ν) :
    ∀ (ds : List D) (vs : List V) (fp : List Addr), Reps T H μ ds vs fp → (∀ a ∈ fp, a ∉ ν) → Reps T H' μ' ds vs fp
  | [], vs, fp, h, _ => h
  | d :: ds, vs, fp, h, n => by
    obtain ⟨v, r, f1, f2, e, h1, h2, rfl⟩ := h
    exact ⟨v, r, f1, f2, e, Rep.keepG k fr gt hx d v f1 h1 fun a ha => n a (List.mem_append_left _ ha), Reps.keepG k fr gt hx ds r f2 h2 fun a ha => n a (List.mem_append_right _ ha), rfl⟩
end
end
theorem Stp.out (s : Stp H μ H' μ') (a : Addr) (o : HO) (e : H a = some o) (n : a ∉ μ) : a ∉ μ' ∧ a ∉ μ := ⟨fun m => (by rw [s.new m n] at e; cases e), n⟩
theorem Rep.keep (k : Kinds H μ) (s : Stp H μ H' μ') (d : D) (v : V) (fp : List Addr) (h : Rep T H μ d v fp) (n : ∀ a ∈ fp, a ∉ μ) : Rep T H' μ' d v fp := Rep.keepG k s.fr (fun _ _ => s.get) (fun a c => s.out a _) d v fp h n
theorem Reps.keep (k : Kinds H μ) (s : Stp H μ H' μ') (ds : List D) (vs : List V) (fp : List Addr) (h : Reps T H μ ds vs fp) (n : ∀ a ∈ fp, a ∉ μ) : Reps T H' μ' ds vs fp := Reps.keepG k s.fr (fun _ _ => s.get) (fun a c => s.out a _) ds vs fp h n
theorem Same.k0 : Kinds H [] := fun _ h => nomatch h
theorem Rep.same (s : Same H H') (d : D) (v : V) (fp : List Addr) (h : Rep T H μ d v fp) : Rep T H' μ d v fp := Rep.keepG Same.k0 (fun b o e _ => s b o e) (fun _ _ e => e) (fun _ _ _ n => ⟨n, by simp⟩) d v fp h (fun _ _ => by simp)
theorem Reps.same (s : Same H H') (ds : List D) (vs : List V) (fp : List Addr) (h : Reps T H μ ds vs fp) : Reps T H' μ ds vs fp := Reps.keepG Same.k0 (fun b o e _ => s b o e) (fun _ _ e => e) (fun _ _ _ n => ⟨n, by simp⟩) ds vs fp h (fun _ _ => by simp)
theorem DictAt.same {a : Addr} {ks : List D} {us : List V} (s : Same H H') (h : DictAt H a ks us) : DictAt H' a ks us := by
  refine DictAt.keep ?_ h
  obtain ⟨es, q, _⟩ := h
  rw [q]; exact s _ _ q
theorem widen_x {e : List Addr} (k : Kinds H e) (a c : Addr) (q : H a = some (excHO c a)) (n : a ∉ μ) : a ∉ μ ++ e ∧ a ∉ ([] : List Addr) := ⟨fun m => (List.mem_append.mp m).elim n fun m => by
  rcases k a m with ⟨_, z⟩ | ⟨_, z⟩ | ⟨_, z⟩
  · rw [q] at z; cases z
  · rw [q] at z; cases z
  · rw [q] at z; exact nd_ne_exc (Option.some.inj z).symm, by simp⟩
theorem widen_g {e : List Addr} (n : Nat) (a : Addr) (h : μ[n]? = some a) : (μ ++ e)[n]? = some a := by
  rw [List.getElem?_append_left (List.getElem?_eq_some_iff.mp h).1]; exact h
theorem Rep.widen {e : List Addr} (k : Kinds H e) (d : D) (v : V) (fp : List Addr) (h : Rep T H μ d v fp) : Rep T H (μ ++ e) d v fp := Rep.keepG Same.k0 (fun b o e _ => e) widen_g (widen_x k) d v fp h (fun _ _ => by simp)
theorem Reps.widen {e : List Addr} (k : Kinds H e) (ds : List D) (vs : List V) (fp : List Addr) (h : Reps T H μ ds vs fp) : Reps T H (μ ++ e) ds vs fp := Reps.keepG Same.k0 (fun b o e _ => e) widen_g (widen_x k) ds vs fp h (fun _ _ => by simp)
theorem StOk.same (s : Same H H') (h : StOk T H μ S) : StOk T H' μ S := ⟨h.len, h.nd, fun n d a h1 h2 => by
  have q := h.at_ n d a h1 h2
  cases d with
  | lst ds => obtain ⟨vs, e, r⟩ := q; exact ⟨vs, s _ _ e, Reps.same s _ _ _ r⟩
  | dct ks ds => obtain ⟨us, e, r⟩ := q; exact ⟨us, DictAt.same s e, Reps.same s _ _ _ r⟩
  | nd ks ds => obtain ⟨xs, e, r1, r2⟩ := q; exact ⟨xs, ⟨s _ _ e.1, e.2⟩, Reps.same s _ _ _ r1, Reps.same s _ _ _ r2⟩
  | _ => exact q.elim⟩
theorem Same.stp (s : Same H H') : Stp H μ H' μ := ⟨⟨[], by simp, by simp⟩, fun b o h _ => s b o h, fun b o h => ⟨o, s b o h⟩⟩
theorem Same.upd {p : Addr} {o : HO} (n : H p = none) : Same H (upd H p o) := fun b u h => by
  rw [upd_ne (ne_of_none h n)]
  exact h
theorem EnvOk.keep {σ : Slots} {ρ : Env} (k : Kinds H μ) (s : Stp H μ H' μ') (h : EnvOk T H μ σ ρ) : EnvOk T H' μ' σ ρ := ⟨h.1, fun i d e => by
  obtain ⟨v, q, r⟩ := h.2 i d e
  exact ⟨v, q, Rep.keep k s d v [] r (by simp)⟩⟩
end
end Ev
end
section
set_option Elab.async false
set_option linter.all false
set_option maxRecDepth 100000
namespace Ev
open PySem PySem.Spec PyProof.Rows L2

/-- a computation came through with what is wanted, or raised as it is wished -/
def Ran {α : Type} (T : Pgm) (W : WX) (σ : Slots) (H : Hp) (μ : List Addr) (m : Option (R α)) (Q : α → Sto → Prop) : Prop := match m with
  | some (.ok a S) => Q a S
  | some (.ex c S) => ∀ H' μ', Stp H μ H' μ' → StOk T H' μ' S → W (.ref (T.C c)) none σ H'
  | none => False
section
variable {α β : Type} {T : Pgm} {W : WX} {σ : Slots} {H H1 : Hp} {μ μ1 : List Addr} {m : Option (R α)} {Q Q' : α → Sto → Prop}
theorem Ran.bnd {f : α → Sto → Option (R β)} {Q : β → Sto → Prop} (h : Ran T W σ H μ (bnd m f) Q) : Ran T W σ H μ m fun a S => Ran T W σ H μ (f a S) Q := by
  match m, h with
  | some (.ok a S), h => exact h
  | some (.ex c S), h => exact h
theorem Ran.imp (h : Ran T W σ H μ m Q) (f : ∀ a S, m = some (.ok a S) → Q a S → Q' a S) : Ran T W σ H μ m Q' := by
  match m, h with
  | some (.ok a S), h => exact f a S rfl h
  | some (.ex c S), h => exact h
theorem Ran.on (h : Ran T W σ H μ m Q) (s : Stp H μ H1 μ1) : Ran T W σ H1 μ1 m Q := by
  match m, h with
  | some (.ok a S), h => exact h
  | some (.ex c S), h => exact fun H' μ' s' => h H' μ' (s.trans s')
theorem Ran.map {x : Option α} {f : α → R β} {Q : β → Sto → Prop} (h : Ran T W σ H μ (x.map f) Q) : ∃ a, x = some a ∧ Ran T W σ H μ (some (f a)) Q := by
  match x, h with
  | some a, h => exact ⟨a, rfl, h⟩
end

/-- behind an expression -/
structure Pst (T : Pgm) (H : Hp) (μ : List Addr) (d : D) (S' : Sto) (v : V) (H' : Hp) (μ' fp : List Addr) : Prop where
  stp : Stp H μ H' μ'
  ok : StOk T H' μ' S'
  rep : Rep T H' μ' d v fp
  nd : (μ' ++ fp).Nodup
  new : ∀ a ∈ fp, H a = none
structure Psts (T : Pgm) (H : Hp) (μ : List Addr) (ds : List D) (S' : Sto) (vs : List V) (H' : Hp) (μ' fp : List Addr) : Prop where
  stp : Stp H μ H' μ'
  ok : StOk T H' μ' S'
  rep : Reps T H' μ' ds vs fp
  nd : (μ' ++ fp).Nodup
  new : ∀ a ∈ fp, H a = none
abbrev Fin1 (T : Pgm) (H : Hp) (μ : List Addr) (Q : VK) : D → Sto → Prop := fun d S' => ∀ v H' μ' fp, Pst T H μ d S' v H' μ' fp → Q v H'
abbrev FinL (T : Pgm) (H : Hp) (μ : List Addr) (Q : List V → Hp → Prop) : List D → Sto → Prop := fun d S' => ∀ v H' μ' fp, Psts T H μ d S' v H' μ' fp → Q v H'
abbrev FinB (T : Pgm) (H : Hp) (μ : List Addr) (Q : Bool → Hp → Prop) : Bool → Sto → Prop := fun b S' => ∀ H' μ', Stp H μ H' μ' → StOk T H' μ' S' → Q b H'
def tEv (T : Pgm) (W : WX) (g : G) (e : PE) : TE := fun σ H Q => ∃ ρ S μ, EnvOk T H μ σ ρ ∧ StOk T H μ S ∧ Ran T W σ H μ (evalE g e ρ S) (Fin1 T H μ Q)
def tEvs (T : Pgm) (W : WX) (g : G) (es : List PE) : TA := fun σ H Q => ∃ ρ S μ, EnvOk T H μ σ ρ ∧ StOk T H μ S ∧ Ran T W σ H μ (evalEs g es ρ S) (FinL T H μ Q)
/-- as a test -/
def testE (m : Option (R D)) : Option (R Bool) := tests m (fun b S => some (.ok b S)) fun c S => some (.ex c S)
def tEvT (T : Pgm) (W : WX) (g : G) (e : PE) : TT := fun σ H Q => ∃ ρ S μ, EnvOk T H μ σ ρ ∧ StOk T H μ S ∧ Ran T W σ H μ (testE (evalE g e ρ S)) (FinB T H μ Q)

theorem PE.mono {X : Cx} {e : Expr} {t t' : TE} (h : L2.PE X e t) (m : ∀ σ H Q, t' σ H Q → t σ H Q) : L2.PE X e t' := ⟨fun pins s σ H Q I q => h.run pins s σ H Q I (m σ H Q q)⟩
theorem PT.mono {X : Cx} {e : Expr} {t t' : TT} (h : PT X e t) (m : ∀ σ H Q, t' σ H Q → t σ H Q) : PT X e t' := ⟨fun pins s σ H Q I q => h.run pins s σ H Q I (m σ H Q q)⟩
theorem PA.mono {X : Cx} {e : List Expr} {t t' : TA} (h : PA X e t) (m : ∀ σ H Q, t' σ H Q → t σ H Q) : PA X e t' := ⟨fun pos pins s σ H Q I q => h.run pos pins s σ H Q I (m σ H Q q)⟩
/-- the rule may be chosen by the reading -/
theorem PE.dep {X : Cx} {e : Expr} {t : TE} (h : ∀ σ H Q, t σ H Q → ∃ t', L2.PE X e t' ∧ t' σ H Q) : L2.PE X e t := ⟨fun pins s σ H Q I q => by
  obtain ⟨t', h1, h2⟩ := h σ H Q q
  exact h1.run pins s σ H Q I h2⟩
theorem PT.dep {X : Cx} {e : Expr} {t : TT} (h : ∀ σ H Q, t σ H Q → ∃ t', PT X e t' ∧ t' σ H Q) : PT X e t := ⟨fun pins s σ H Q I q => by
  obtain ⟨t', h1, h2⟩ := h σ H Q q
  exact h1.run pins s σ H Q I h2⟩
theorem PS.dep {X : Cx} {e : Stmt} {t : TS} (h : ∀ D σ H, t D σ H → ∃ t', L2.PS X e t' ∧ t' D σ H) : L2.PS X e t := ⟨fun pins s σ H D I q => by
  obtain ⟨t', h1, h2⟩ := h D σ H q
  exact h1.run pins s σ H D I h2⟩

section
variable {T : Pgm} {W : WX} {g : G} {σ : Slots} {H H1 H2 : Hp} {μ μ1 μ2 : List Addr} {ρ : Env} {S S1 S2 : Sto} {a b : PE}
theorem StOk.kd (h : StOk T H μ S) : Kinds H μ := h.kinds
theorem nd_left {l1 l2 : List Addr} (h : (l1 ++ l2).Nodup) : l1.Nodup := (List.nodup_append.mp h).1
theorem nd_out {l1 l2 : List Addr} (h : (l1 ++ l2).Nodup) : ∀ x ∈ l2, x ∉ l1 := fun x hx m => (List.nodup_append.mp h).2.2 x m x hx rfl
/-- what is owned ahead of a step is owned behind it -/
theorem nd_step {fp f2 : List Addr} (s : Stp H1 μ1 H2 μ2) (h1 : (μ1 ++ fp).Nodup) (h2 : (μ2 ++ f2).Nodup) (d : ∀ a ∈ fp, ∃ o, H1 a = some o) (n : ∀ a ∈ f2, H1 a = none) : (μ2 ++ (fp ++ f2)).Nodup := by
  obtain ⟨n1, n2, n3⟩ := List.nodup_append.mp h1
  obtain ⟨m1, m2, m3⟩ := List.nodup_append.mp h2
  refine List.nodup_append.mpr ⟨m1, List.nodup_append.mpr ⟨n2, m2, fun x hx y hy e => ?_⟩, fun x hx y hy e => ?_⟩
  · subst e
    obtain ⟨o, ho⟩ := d x hx
    rw [n x hy] at ho; cases ho
  · subst e
    rcases List.mem_append.mp hy with hy | hy
    · by_cases m : x ∈ μ1
      · exact n3 x m x hy rfl
      · obtain ⟨o, ho⟩ := d x hy
        rw [s.new hx m] at ho; cases ho
    · exact m3 x hx x hy rfl
mutual
theorem Rep.there : ∀ (d : D) (v : V) (fp : List Addr), Rep T H μ d v fp → ∀ a ∈ fp, ∃ o, H a = some o
  | .non, _, _, h, a, m => by rw [h.2] at m; cases m
  | .bl _, _, _, h, a, m => by rw [h.2] at m; cases m
  | .int _, _, _, h, a, m => by rw [h.2] at m; cases m
  | .str _, _, _, h, a, m => by rw [h.2] at m; cases m
  | .tup ds, _, fp, h, a, m => by
    obtain ⟨p, vs, _, _, r⟩ := h
    exact Reps.there ds vs fp r a m
  | .lst ds, _, fp, h, a, m => by
    obtain ⟨p, vs, fp', _, q, r, rfl⟩ := h
    rcases List.mem_append.mp m with m | m
    · exact Reps.there ds vs fp' r a m
    · have : a = p := by simpa using m
      subst this; exact ⟨_, q⟩
  | .fz ds, _, fp, h, a, m => by
    obtain ⟨p, vs, _, _, r, z⟩ := h
    rw [z] at m; cases m
  | .dct ks ds, _, fp, h, a, m => by
    obtain ⟨p, vs, fp', _, ⟨es, q, _⟩, r, rfl⟩ := h
    rcases List.mem_append.mp m with m | m
    · exact Reps.there ds vs fp' r a m
    · have : a = p := by simpa using m
      subst this; exact ⟨_, q⟩
  | .nd ks ds, _, fp, h, a, m => by
    obtain ⟨p, xs, fp', _, ⟨q, _⟩, _, r, rfl⟩ := h
    rcases List.mem_append.mp m with m | m
    · exact Reps.there ds _ fp' r a m
    · have : a = p := by simpa using m
      subst this; exact ⟨_, q⟩
  | .ref _, _, fp, h, a, m => by
    obtain ⟨p, _, _, z⟩ := h
    rw [z] at m; cases m
  | .exc _, _, fp, h, a, m => by
    obtain ⟨p, _, _, _, z⟩ := h
    rw [z] at m; cases m
theorem Reps.there : ∀ (ds : List D) (vs : List V) (fp : List Addr), Reps T H μ ds vs fp → ∀ a ∈ fp, ∃ o, H a = some o
  | [], _, fp, h, a, m => by rw [h.2] at m; cases m
  | d :: ds, _, fp, h, a, m => by
    obtain ⟨v, r, f1, f2, _, h1, h2, rfl⟩ := h
    rcases List.mem_append.mp m with m | m
    · exact Rep.there d v f1 h1 a m
    · exact Reps.there ds r f2 h2 a m
end
theorem evr (env : EnvOk T H μ σ ρ) (st : StOk T H μ S) {Q : VK} (h : Ran T W σ H μ (evalE g a ρ S) (Fin1 T H μ Q)) : tEv T W g a σ H Q := ⟨ρ, S, μ, env, st, h⟩
/-- one operand -/
theorem ev1 (env : EnvOk T H μ σ ρ) (st : StOk T H μ S) {K : D → Sto → Prop} {Q : VK} (h : Ran T W σ H μ (evalE g a ρ S) K)
    (f : ∀ x S1 v H1 μ1 fp, Pst T H μ x S1 v H1 μ1 fp → K x S1 → Q v H1) : tEv T W g a σ H Q :=
  ⟨ρ, S, μ, env, st, h.imp fun x S1 _ k v H1 μ1 fp p => f x S1 v H1 μ1 fp p k⟩
/-- two operands -/
theorem ev2 (env : EnvOk T H μ σ ρ) (st : StOk T H μ S) {K : D → D → Sto → Prop} {Q : V → V → Hp → Prop} (h : Ran T W σ H μ (evalE g a ρ S) fun x S1 => Ran T W σ H μ (evalE g b ρ S1) fun y S2 => K x y S2)
    (f : ∀ x y S2 u v H2 μ2 f1 f2, Psts T H μ [x, y] S2 [u, v] H2 μ2 (f1 ++ f2) → Rep T H2 μ2 x u f1 → Rep T H2 μ2 y v f2 → K x y S2 → Q u v H2) : tEv T W g a σ H fun u H1 => tEv T W g b σ H1 fun v H2 => Q u v H2 := by
  refine ev1 env st h fun x S1 u H1 μ1 f1 p1 k => ?_
  have kd := st.kinds
  refine ev1 (env.keep kd p1.stp) p1.ok (k.on p1.stp) fun y S2 v H2 μ2 f2 p2 k2 => ?_
  have r1 : Rep T H2 μ2 x u f1 := Rep.keep p1.ok.kinds p2.stp x u f1 p1.rep (nd_out p1.nd)
  refine f x y S2 u v H2 μ2 f1 f2 ⟨p1.stp.trans p2.stp, p2.ok, ⟨u, [v], f1, f2, rfl, r1, ⟨v, [], f2, [], rfl, p2.rep, ⟨rfl, rfl⟩, by simp⟩, rfl⟩, ?_, fun a m => ?_⟩ r1 p2.rep k2
  · exact nd_step p2.stp p1.nd p2.nd (Rep.there x u f1 p1.rep) p2.new
  · rcases List.mem_append.mp m with m | m
    · exact p1.new a m
    · exact p1.stp.free (p2.new a m)
/-- a value that holds nothing alone -/
theorem Pst.flat {d : D} {v : V} (s : Stp H μ H1 μ1) (ok : StOk T H1 μ1 S) (r : Rep T H1 μ1 d v []) : Pst T H μ d S v H1 μ1 [] := ⟨s, ok, r, by simpa using ok.nd, by simp⟩
end

/-! ### what the text is, and where one stands -/
structure CC where
  N : List Str
  fnames : List Str
  cnames : List Str
  consts : List (Str × D)
  sc : Scope
def vis (sc : Scope) (x : Str) : Bool := match sc.names.lookup x with
  | some .local => true
  | some .cell => true
  | some .free => true
  | _ => false
theorem vis_ok {sc : Scope} {x : Str} (h : vis sc x = true) : Vis sc x := by
  unfold vis at h
  split at h
  · exact .inl (by assumption)
  · exact .inr (.inl (by assumption))
  · exact .inr (.inr (by assumption))
  · cases h
def glob (sc : Scope) (x : Str) : Bool := decide (sc.names.lookup x = some .globalImplicit) && decide (x ≠ "__debug__") && decide (x ≠ "__name__")
def all2 {α β : Type} (f : α → β → Bool) : List α → List β → Bool
  | [], [] => true
  | a :: as, b :: bs => f a b && all2 f as bs
  | _, _ => false
def noStar : Expr → Bool
  | .Starred _ _ => false
  | _ => true
theorem star_of {e : Expr} {es : List Expr} {env : PySem.Env} (h : noStar e = true) : starEach (e :: es) env = (false, eval e env) :: starEach es env := by
  cases e <;> first | rfl | cases h
theorem stars_none {es : List Expr} {env : PySem.Env} {pos : Pos} (h : es.all noStar = true) : (backTo pos (starEach es env)).any (·.1) = false := by
  induction es with
  | nil => rfl
  | cons e es ih =>
    rw [List.all_cons, Bool.and_eq_true] at h
    rw [star_of h.1]
    unfold backTo
    rw [List.map_cons, List.any_cons]
    simp only [Bool.false_or]
    exact ih h.2
theorem stars_all {es : List Expr} {env : PySem.Env} {pos : Pos} (h : es.all noStar = true) : (backTo pos (starEach es env)).all (fun x => !x.1) = true := by
  induction es with
  | nil => rfl
  | cons e es ih =>
    rw [List.all_cons, Bool.and_eq_true] at h
    rw [star_of h.1]
    unfold backTo
    rw [List.map_cons, List.all_cons]
    simp only [Bool.not_false, Bool.true_and]
    exact ih h.2
/-- a test that is its value's truth -/
def plainTest : Expr → Bool
  | .UnaryOp .Not _ _ => false
  | .BoolOp _ _ _ => false
  | .IfExp _ _ _ _ => false
  | .Compare _ _ _ _ => false
  | _ => true
theorem test_of {e : Expr} {env : PySem.Env} (h : plainTest e = true) : ∀ whole, isTrue e env whole = (do let v ← whole; standAt e.pos; holding [v] (truthy v)) := by
  intro whole
  cases e with
  | UnaryOp op x p => cases op <;> first | rfl | cases h
  | _ => first | rfl | cases h
end Ev
end
section
set_option Elab.async false
set_option linter.all false
set_option maxRecDepth 100000
namespace Ev
open PySem PySem.Spec PyProof.Rows L2
abbrev tOf (X : Cx) (C : Nat → Addr) : Pgm := ⟨X.K, X.w, C⟩
/-- what a step from values gives -/
abbrev Out (T : Pgm) (H : Hp) (μ : List Addr) (S : Sto) (z : D) (own : List Addr) (Q : VK) : Prop :=
  ∀ v H' fp, Same H H' → Rep T H' μ z v fp → (μ ++ fp).Nodup → (∀ a ∈ fp, a ∈ own ∨ H a = none) → Q v H'
structure In2 (T : Pgm) (H : Hp) (μ : List Addr) (S : Sto) (d e : D) (x y : V) (f1 f2 : List Addr) : Prop where
  r1 : Rep T H μ d x f1
  r2 : Rep T H μ e y f2
  ok : StOk T H μ S
  nd : (μ ++ (f1 ++ f2)).Nodup
def opOf : Bin → Operator
  | .add => .Add
  | .sub => .Sub
  | .mul => .Mult
  | .fdiv => .FloorDiv
  | .mod => .Mod
  | .pow => .Pow
def rBin (T : Pgm) (o : Bin) : R2 := fun x y H Q => ∃ d e S μ f1 f2 z, In2 T H μ S d e x y f1 f2 ∧ binE S o d e = some z ∧ Out T H μ S z (f1 ++ f2) Q
section
variable {T : Pgm} {H H' : Hp} {μ : List Addr} {S : Sto}
theorem Reps.len : ∀ (ds : List D) (vs : List V) (fp : List Addr), Reps T H μ ds vs fp → vs.length = ds.length
  | [], _, _, h => by rw [h.1]; rfl
  | d :: ds, _, _, h => by
    obtain ⟨v, r, f1, f2, rfl, h1, h2, rfl⟩ := h
    rw [List.length_cons, List.length_cons, Reps.len ds r f2 h2]
theorem Reps.append : ∀ (as bs : List D) (us vs : List V) (f1 f2 : List Addr), Reps T H μ as us f1 → Reps T H μ bs vs f2 → Reps T H μ (as ++ bs) (us ++ vs) (f1 ++ f2)
  | [], bs, us, vs, f1, f2, h1, h2 => by obtain ⟨rfl, rfl⟩ := h1; exact h2
  | a :: as, bs, us, vs, f1, f2, h1, h2 => by
    obtain ⟨v, r, g1, g2, rfl, h3, h4, rfl⟩ := h1
    exact ⟨v, r ++ vs, g1, g2 ++ f2, rfl, h3, Reps.append as bs r vs g2 f2 h4 h2, by rw [List.append_assoc]⟩
/-- a list that may be written: the object's items -/
theorem mut_at {d : D} {v : V} {fp : List Addr} {ds : List D} (ok : StOk T H μ S) (r : Rep T H μ d v fp) (e : mutOf S d = some ds) : ∃ a vs f1, v = .ref a ∧ H a = some (.lst vs) ∧ Reps T H μ ds vs f1 ∧ f1.Sublist fp := by
  unfold mutOf at e
  split at e
  · cases e
    obtain ⟨a, vs, f1, rfl, q, r, rfl⟩ := r
    exact ⟨a, vs, f1, rfl, q, r, List.sublist_append_left _ _⟩
  · rename_i n
    split at e
    · rename_i ds' hS
      cases e
      obtain ⟨a, rfl, hm, rfl⟩ := r
      obtain ⟨vs, q, r⟩ := ok.at_ n _ a hS hm
      exact ⟨a, vs, [], rfl, q, r, List.Sublist.refl _⟩
    · cases e
  · cases e
theorem nd_sub {l1 l2 l3 : List Addr} (h : (l1 ++ l2).Nodup) (s : l3.Sublist l2) : (l1 ++ l3).Nodup := h.sublist (List.Sublist.append (List.Sublist.refl _) s)
/-- a new list of these values -/
theorem out_lst {ds : List D} {vs : List V} {fp own : List Addr} {Q : VK} (ok : StOk T H μ S) (r : Reps T H μ ds vs fp) (nd : (μ ++ fp).Nodup) (ow : ∀ a ∈ fp, a ∈ own) (q : Out T H μ S (.lst ds) own Q) : ∀ p, H p = none → Q (.ref p) (upd H p (.lst vs)) := fun p np => by
  have hp : p ∉ fp := fun m => by
    obtain ⟨o, e⟩ := Reps.there ds vs fp r p m
    rw [np] at e; cases e
  have hm : p ∉ μ := fun m => by
    rcases ok.kinds p m with ⟨_, e⟩ | ⟨_, e⟩ | ⟨_, e⟩ <;> (rw [np] at e; cases e)
  refine q _ _ (fp ++ [p]) (Same.upd np) ⟨p, vs, fp, rfl, upd_same, Reps.same (Same.upd np) _ _ _ r, rfl⟩ ?_ fun a m => ?_
  · rw [← List.append_assoc]
    refine List.nodup_append.mpr ⟨nd, by simp, fun a ha b hb e => ?_⟩
    have : b = p := by simpa using hb
    subst this; subst e
    exact (List.mem_append.mp ha).elim hm hp
  · rcases List.mem_append.mp m with m | m
    · exact .inl (ow a m)
    · have : a = p := by simpa using m
      subst this; exact .inr np
/-- a new tuple of these values -/
theorem out_tup {ds : List D} {vs : List V} {fp own : List Addr} {Q : VK} (r : Reps T H μ ds vs fp) (nd : (μ ++ fp).Nodup) (ow : ∀ a ∈ fp, a ∈ own) (q : Out T H μ S (.tup ds) own Q) : ∀ p, H p = none → Q (.ref p) (upd H p (.tup vs)) := fun p np =>
  q _ _ fp (Same.upd np) ⟨p, vs, rfl, .inl (.inl upd_same), Reps.same (Same.upd np) _ _ _ r⟩ nd fun a m => .inl (ow a m)
theorem out_flat {z : D} {v : V} {own : List Addr} {Q : VK} (ok : StOk T H μ S) (r : Rep T H μ z v []) (q : Out T H μ S z own Q) : Q v H := q v H [] (fun _ _ e => e) r (by simpa using ok.nd) (by simp)
theorem out_int {i : Int} {own : List Addr} {Q : VK} (ok : StOk T H μ S) (q : Out T H μ S (.int i) own Q) : Q (.int i) H := out_flat ok (show Rep T H μ (.int i) (.int i) [] from ⟨rfl, rfl⟩) q
theorem out_str {i : Str} {own : List Addr} {Q : VK} (ok : StOk T H μ S) (q : Out T H μ S (.str i) own Q) : Q (.str i) H := out_flat ok (show Rep T H μ (.str i) (.str i) [] from ⟨rfl, rfl⟩) q
theorem out_bl {i : Bool} {own : List Addr} {Q : VK} (ok : StOk T H μ S) (q : Out T H μ S (.bl i) own Q) : Q (.bl i) H := out_flat ok (show Rep T H μ (.bl i) (.bl i) [] from ⟨rfl, rfl⟩) q
theorem out_non {own : List Addr} {Q : VK} (ok : StOk T H μ S) (q : Out T H μ S .non own Q) : Q .non H := out_flat ok (show Rep T H μ .non .non [] from ⟨rfl, rfl⟩) q
theorem sub_l {l1 l2 l3 : List Addr} (s : l1.Sublist l2) : l1.Sublist (l2 ++ l3) := s.trans (List.sublist_append_left _ _)
mutual
/-- what is settled holds nothing alone -/
theorem Rep.settled : ∀ (d : D) (v : V) (fp : List Addr), Rep T H μ d v fp → d.settled = true → fp = []
  | .non, _, _, h, _ => h.2
  | .bl _, _, _, h, _ => h.2
  | .int _, _, _, h, _ => h.2
  | .str _, _, _, h, _ => h.2
  | .tup ds, _, fp, h, s => by
    obtain ⟨a, vs, _, _, r⟩ := h
    exact Reps.settled ds vs fp r s
  | .fz _, _, _, h, _ => by obtain ⟨_, _, _, _, _, z⟩ := h; exact z
  | .ref _, _, _, h, _ => by obtain ⟨_, _, _, z⟩ := h; exact z
  | .exc _, _, _, h, _ => by obtain ⟨_, _, _, _, z⟩ := h; exact z
  | .lst _, _, _, _, s => nomatch s
  | .dct _ _, _, _, _, s => nomatch s
  | .nd _ _, _, _, _, s => nomatch s
theorem Reps.settled : ∀ (ds : List D) (vs : List V) (fp : List Addr), Reps T H μ ds vs fp → settleds ds = true → fp = []
  | [], _, _, h, _ => h.2
  | d :: ds, _, _, h, s => by
    obtain ⟨v, r, f1, f2, rfl, h1, h2, rfl⟩ := h
    obtain ⟨s1, s2⟩ := Bool.and_eq_true_iff.mp (show (d.settled && settleds ds) = true from s)
    rw [Rep.settled d v f1 h1 s1, Reps.settled ds r f2 h2 s2]; rfl
end
theorem Reps.rep {ds : List D} {vs : List V} (r : Reps T H μ ds vs []) : ∀ k : Nat, Reps T H μ (List.replicate k ds).flatten (List.replicate k vs).flatten []
  | 0 => ⟨rfl, rfl⟩
  | k + 1 => by
    rw [List.replicate_succ, List.replicate_succ, List.flatten_cons, List.flatten_cons]
    exact Reps.append _ _ _ _ _ _ r (Reps.rep r k)
end
theorem foldl_rep_nat (l : List Nat) : ∀ (k : Nat) (acc : List Nat), List.foldl (fun x1 x2 => x1 ++ x2) acc.toArray (List.replicate k l.toArray) = (acc ++ (List.replicate k l).flatten).toArray
  | 0, acc => by simp
  | k + 1, acc => by
    have e : acc.toArray ++ l.toArray = (acc ++ l).toArray := by simp
    rw [List.replicate_succ, List.foldl_cons, e, foldl_rep_nat l k, List.replicate_succ, List.flatten_cons, List.append_assoc]
section
variable {X : Cx} {C : Nat → Addr}
theorem op_mulS : OpR X (binaryOp .Mult) (fun x y H Q => ∃ z n, x = .str z ∧ y = .int n ∧ 0 ≤ n ∧ n ≤ 1000 ∧ z.length ≤ 1000 ∧ Q (.str (repS n z)) H) := by
  intro pins s σ H x y v u Q I rx ry ⟨z, n, e1, e2, h0, h1, h2, q⟩
  subst e1; subst e2
  obtain ⟨t, rfl⟩ := rx
  obtain ⟨t', rfl⟩ := ry
  have fin : ∀ w : Str, w = repS n z → ∀ t k, EP X pins σ Q (.str w t) { s with toks := k } := fun w e t k => ⟨.str (repS n z), H, I.tok _, ⟨t, by rw [e]⟩, q⟩
  have hlen : z.length * n.toNat ≤ 1000000 := by
    have : n.toNat ≤ 1000 := by omega
    calc z.length * n.toNat ≤ 1000 * 1000 := Nat.mul_le_mul h2 this
      _ = 1000000 := rfl
  refine PySem.P.mul_str ?_ (fun a b => ?_) (fun a b => ?_) ?_
  · have a1 : ¬ n < -(2 ^ 63 : Int) := by omega
    have a2 : ¬ n ≥ 2 ^ 63 := by omega
    rw [decide_eq_false a1, decide_eq_false a2]; rfl
  · have h4 : (z.length : Int) ≤ 1000 := by omega
    have h3 : (z.length : Int) ≤ (2 ^ 63 - 1 : Int) / n := (Int.le_ediv_iff_mul_le (by omega)).mpr (by
      have h6 : (z.length : Int) * n ≤ 1000 * 1000 := Int.mul_le_mul h4 h1 h0 (by decide)
      omega)
    omega
  · unfold Builtin.Str.tooLong
    rw [decide_eq_false_iff_not]
    have : sizeLine = 16777216 := by decide
    omega
  · split
    · rename_i hn
      have e0 : n = 0 := by omega
      refine ⟨by decide, fin _ ?_ _ _⟩
      subst e0
      show Str.empty = repS 0 z
      unfold repS Str.empty
      simp
    · rename_i hn
      split
      · rename_i hb
        show EP X pins σ Q (.str z t) s
        refine ⟨.str (repS n z), H, I, ⟨t, ?_⟩, q⟩
        have : repS n z = z := by
          rcases Bool.or_eq_true_iff.mp hb with hb | hb
          · have e1 : n = 1 := by simpa using hb
            subst e1
            unfold repS
            simp
          · have e1 : z.cps.size = 0 := by simpa [Str.length] using hb
            have e2 : z.cps = #[] := Array.eq_empty_of_size_eq_zero e1
            unfold repS
            rw [e2]
            cases z with
            | mk c =>
              have e3 : c = #[] := e2
              subst e3
              simp
        rw [this]
      · rename_i hb
        refine ⟨?_, fin _ ?_ _ _⟩
        · have e := foldl_rep_nat z.cps.toList n.toNat []
          simp only [List.nil_append, Array.toArray_toList] at e
          rw [e]
          have hs : sizeLine = 16777216 := by decide
          show ((List.replicate n.toNat z.cps.toList).flatten.toArray).size ≤ sizeLine
          have e2 : z.cps.toList.length = z.length := by simp [Str.length]
          rw [List.size_toArray, List.length_flatten, List.map_replicate, List.sum_replicate_nat, e2, hs, Nat.mul_comm]
          omega
        · unfold repS
          have := foldl_rep_nat z.cps.toList n.toNat []
          simp only [List.nil_append, Array.toArray_toList] at this
          rw [← this]
theorem op_fdivA : OpR X (binaryOp .FloorDiv) (rI (fun _ j => j ≠ 0 ∧ j.natAbs.log2 < 9000) fun i j => .int (i.fdiv j)) := opI fun i j _ _ _ _ _ hc q => floordiv_int hc.1 q (.inl (PyProof.noPylong_of_log2 hc.2))
theorem op_bin : ∀ o : Bin, OpR X (binaryOp (opOf o)) (rBin (tOf X C) o) := by
  intro o pins s σ H x y v u Q I rx ry ⟨d, e, S, μ, f1, f2, z, i, b, q⟩
  unfold binE at b
  split at b
  · cases b
    obtain ⟨rfl, rfl⟩ := i.r1; obtain ⟨rfl, rfl⟩ := i.r2
    exact op_add pins s σ H _ _ v u Q I rx ry ⟨_, _, rfl, rfl, out_int i.ok q⟩
  · split at b
    · rename_i hl
      cases b
      obtain ⟨rfl, rfl⟩ := i.r1; obtain ⟨rfl, rfl⟩ := i.r2
      exact op_add_str pins s σ H _ _ v u Q I rx ry ⟨_, _, rfl, rfl, of_decide_eq_true hl, out_str i.ok q⟩
    · cases b
  · split at b
    · rename_i as bs hl
      cases b
      obtain ⟨p1, vs, rfl, s1, r1⟩ := i.r1
      obtain ⟨p2, us, rfl, s2, r2⟩ := i.r2
      have ll : vs.length + us.length ≤ sizeLine := by
        rw [Reps.len _ _ _ r1, Reps.len _ _ _ r2]; exact of_decide_eq_true hl
      refine op_catA pins s σ H _ _ v u Q I rx ry ⟨p1, p2, vs, us, rfl, rfl, s1, s2, ll, fun e0 => ?_, fun _ e0 => ?_, fun _ _ => ?_⟩
      · subst e0
        have ea : as = [] := List.eq_nil_of_length_eq_zero (by rw [← Reps.len _ _ _ r1]; rfl)
        subst ea
        obtain ⟨_, rfl⟩ := r1
        exact q _ H f2 (fun _ _ e => e) ⟨p2, us, rfl, s2, r2⟩ (by simpa using i.nd) fun a m => .inl (by simpa using m)
      · subst e0
        have ea : bs = [] := List.eq_nil_of_length_eq_zero (by rw [← Reps.len _ _ _ r2]; rfl)
        subst ea
        obtain ⟨_, rfl⟩ := r2
        refine q _ H f1 (fun _ _ e => e) ⟨p1, vs, rfl, s1, by simpa using r1⟩ (by simpa using i.nd) fun a m => .inl (by simpa using m)
      · exact out_tup (Reps.append _ _ _ _ _ _ r1 r2) i.nd (fun a m => m) q
    · cases b
  · split at b
    · rename_i as bs h1 h2
      split at b
      · rename_i hl
        cases b
        obtain ⟨p1, vs, g1, rfl, s1, r1, t1⟩ := mut_at i.ok i.r1 h1
        obtain ⟨p2, us, g2, rfl, s2, r2, t2⟩ := mut_at i.ok i.r2 h2
        have ll : vs.length + us.length ≤ sizeLine := by
          rw [Reps.len _ _ _ r1, Reps.len _ _ _ r2]; exact of_decide_eq_true hl
        have sb := List.Sublist.append t1 t2
        exact op_cat pins s σ H _ _ v u Q I rx ry ⟨p1, p2, vs, us, rfl, rfl, s1, s2, ll, out_lst i.ok (Reps.append _ _ _ _ _ _ r1 r2) (nd_sub i.nd sb) (fun a m => sb.mem m) q⟩
      · cases b
    · cases b
  · cases b
    obtain ⟨rfl, rfl⟩ := i.r1; obtain ⟨rfl, rfl⟩ := i.r2
    exact op_sub pins s σ H _ _ v u Q I rx ry ⟨_, _, rfl, rfl, out_int i.ok q⟩
  · split at b
    · rename_i hl
      cases b
      obtain ⟨rfl, rfl⟩ := i.r1; obtain ⟨rfl, rfl⟩ := i.r2
      exact op_mulW pins s σ H _ _ v u Q I rx ry ⟨_, _, rfl, rfl, show _ < _ from of_decide_eq_true hl, out_int i.ok q⟩
    · cases b
  · split at b
    · rename_i hl
      cases b
      simp only [Bool.and_eq_true, decide_eq_true_eq] at hl
      obtain ⟨rfl, rfl⟩ := i.r1; obtain ⟨rfl, rfl⟩ := i.r2
      exact op_mulS pins s σ H _ _ v u Q I rx ry ⟨_, _, rfl, rfl, hl.1.1, hl.1.2, hl.2, out_str i.ok q⟩
    · cases b
  · split at b
    · rename_i as n hl
      cases b
      simp only [Bool.and_eq_true, decide_eq_true_eq, Bool.not_eq_true', List.isEmpty_eq_false_iff] at hl
      obtain ⟨⟨⟨⟨l1, l2⟩, l3⟩, l4⟩, l5⟩ := hl
      obtain ⟨p1, vs, rfl, s1, r1⟩ := i.r1
      obtain ⟨rfl, rfl⟩ := i.r2
      have e1 := Reps.settled _ _ _ r1 l5
      subst e1
      refine op_repT pins s σ H _ _ v u Q I rx ry ⟨p1, n, vs, rfl, rfl, s1, fun e => ?_, l1, l2, by rw [Reps.len _ _ _ r1]; exact l3, ?_⟩
      · subst e
        exact l4 (List.eq_nil_of_length_eq_zero (by rw [← Reps.len _ _ _ r1]; rfl))
      · exact out_tup (Reps.rep r1 _) (by simpa using i.ok.nd) (by simp) q
    · cases b
  · split at b
    · rename_i hl
      cases b
      obtain ⟨h1, h2⟩ := Bool.and_eq_true_iff.mp hl
      obtain ⟨rfl, rfl⟩ := i.r1; obtain ⟨rfl, rfl⟩ := i.r2
      exact op_fdivA pins s σ H _ _ v u Q I rx ry ⟨_, _, rfl, rfl, ⟨of_decide_eq_true h1, of_decide_eq_true h2⟩, out_int i.ok q⟩
    · cases b
  · split at b
    · rename_i hl
      cases b
      obtain ⟨rfl, rfl⟩ := i.r1; obtain ⟨rfl, rfl⟩ := i.r2
      exact op_modN pins s σ H _ _ v u Q I rx ry ⟨_, _, rfl, rfl, of_decide_eq_true hl, out_int i.ok q⟩
    · cases b
  · split at b
    · rename_i hl
      cases b
      simp only [Bool.and_eq_true, decide_eq_true_eq] at hl
      obtain ⟨rfl, rfl⟩ := i.r1; obtain ⟨rfl, rfl⟩ := i.r2
      exact op_pow pins s σ H _ _ v u Q I rx ry ⟨_, _, rfl, rfl, ⟨hl.1.1, hl.1.2, hl.2⟩, out_int i.ok q⟩
    · cases b
  · cases b
end
end Ev
end
section
set_option Elab.async false
set_option linter.all false
set_option maxRecDepth 100000
namespace Ev
open PySem PySem.Spec PyProof.Rows L2 PySem.SeqAt
mutual
/-- the value u is the data x in the heap -/
def Tree (h : Heap) : D → Value → Prop
  | .non, u => u = .none
  | .bl b, u => u = .bool b
  | .int i, u => ∃ t, u = .int i t
  | .str x, u => ∃ t, u = .str x t
  | .tup ds, u => ∃ a its, u = .ref a ∧ h.IsTuple a its ∧ Trees h ds its.toList
  | .lst ds, u => ∃ a its, u = .ref a ∧ h.IsList a its ∧ Trees h ds its.toList
  | _, _ => False
def Trees (h : Heap) : List D → List Value → Prop
  | [], us => us = []
  | d :: ds, us => ∃ u r, us = u :: r ∧ Tree h d u ∧ Trees h ds r
end
theorem Trees.length {h : Heap} : ∀ (ds : List D) (us : List Value), Trees h ds us → us.length = ds.length
  | [], _, e => by rw [e]; rfl
  | d :: ds, _, e => by
    obtain ⟨u, r, rfl, _, q⟩ := e
    rw [List.length_cons, List.length_cons, Trees.length ds r q]
theorem IsTuple.inj {h : Heap} {a : Addr} {i j : Array Value} (x : h.IsTuple a i) (y : h.IsTuple a j) : i = j := by
  obtain ⟨o, e, _, n, d⟩ := x
  obtain ⟨o', e', _, n', d'⟩ := y
  rw [e] at e'; cases e'; rw [d] at d'; cases d'; rfl
theorem IsList.inj {h : Heap} {a : Addr} {i j : Array Value} (x : h.IsList a i) (y : h.IsList a j) : i = j := by
  obtain ⟨o, e, _, n, d⟩ := x
  obtain ⟨o', e', _, n', d'⟩ := y
  rw [e] at e'; cases e'; rw [d] at d'; cases d'; rfl
mutual
theorem Tree.unique {h : Heap} : ∀ (x y : D) (u : Value), Tree h x u → Tree h y u → x = y
  | .non, .non, u, _, _ => rfl
  | .non, .bl b, u, ha, hb => by
    have ea : u = Value.none := ha
    have eb : u = Value.bool b := hb
    rw [ea] at eb; cases eb
  | .non, .int b, u, ha, hb => by
    have ea : u = Value.none := ha
    obtain ⟨tb, eb⟩ := hb
    rw [ea] at eb; cases eb
  | .non, .str b, u, ha, hb => by
    have ea : u = Value.none := ha
    obtain ⟨tb, eb⟩ := hb
    rw [ea] at eb; cases eb
  | .non, .tup bs, u, ha, hb => by
    have ea : u = Value.none := ha
    obtain ⟨lb, ib, eb, qb, rb⟩ := hb
    rw [ea] at eb; cases eb
  | .non, .lst bs, u, ha, hb => by
    have ea : u = Value.none := ha
    obtain ⟨lb, ib, eb, qb, rb⟩ := hb
    rw [ea] at eb; cases eb
  | .bl a, .non, u, ha, hb => by
    have ea : u = Value.bool a := ha
    have eb : u = Value.none := hb
    rw [ea] at eb; cases eb
  | .bl a, .bl b, u, ha, hb => by
    cases (show u = Value.bool a from ha)
    cases (show Value.bool a = Value.bool b from hb)
    rfl
  | .bl a, .int b, u, ha, hb => by
    have ea : u = Value.bool a := ha
    obtain ⟨tb, eb⟩ := hb
    rw [ea] at eb; cases eb
  | .bl a, .str b, u, ha, hb => by
    have ea : u = Value.bool a := ha
    obtain ⟨tb, eb⟩ := hb
    rw [ea] at eb; cases eb
  | .bl a, .tup bs, u, ha, hb => by
    have ea : u = Value.bool a := ha
    obtain ⟨lb, ib, eb, qb, rb⟩ := hb
    rw [ea] at eb; cases eb
  | .bl a, .lst bs, u, ha, hb => by
    have ea : u = Value.bool a := ha
    obtain ⟨lb, ib, eb, qb, rb⟩ := hb
    rw [ea] at eb; cases eb
  | .int a, .non, u, ha, hb => by
    obtain ⟨ta, ea⟩ := ha
    have eb : u = Value.none := hb
    rw [ea] at eb; cases eb
  | .int a, .bl b, u, ha, hb => by
    obtain ⟨ta, ea⟩ := ha
    have eb : u = Value.bool b := hb
    rw [ea] at eb; cases eb
  | .int a, .int b, u, ha, hb => by
    obtain ⟨ta, rfl⟩ := ha
    obtain ⟨tb, e⟩ := hb
    cases e
    rfl
  | .int a, .str b, u, ha, hb => by
    obtain ⟨ta, ea⟩ := ha
    obtain ⟨tb, eb⟩ := hb
    rw [ea] at eb; cases eb
  | .int a, .tup bs, u, ha, hb => by
    obtain ⟨ta, ea⟩ := ha
    obtain ⟨lb, ib, eb, qb, rb⟩ := hb
    rw [ea] at eb; cases eb
  | .int a, .lst bs, u, ha, hb => by
    obtain ⟨ta, ea⟩ := ha
    obtain ⟨lb, ib, eb, qb, rb⟩ := hb
    rw [ea] at eb; cases eb
  | .str a, .non, u, ha, hb => by
    obtain ⟨ta, ea⟩ := ha
    have eb : u = Value.none := hb
    rw [ea] at eb; cases eb
  | .str a, .bl b, u, ha, hb => by
    obtain ⟨ta, ea⟩ := ha
    have eb : u = Value.bool b := hb
    rw [ea] at eb; cases eb
  | .str a, .int b, u, ha, hb => by
    obtain ⟨ta, ea⟩ := ha
    obtain ⟨tb, eb⟩ := hb
    rw [ea] at eb; cases eb
  | .str a, .str b, u, ha, hb => by
    obtain ⟨ta, rfl⟩ := ha
    obtain ⟨tb, e⟩ := hb
    cases e
    rfl
  | .str a, .tup bs, u, ha, hb => by
    obtain ⟨ta, ea⟩ := ha
    obtain ⟨lb, ib, eb, qb, rb⟩ := hb
    rw [ea] at eb; cases eb
  | .str a, .lst bs, u, ha, hb => by
    obtain ⟨ta, ea⟩ := ha
    obtain ⟨lb, ib, eb, qb, rb⟩ := hb
    rw [ea] at eb; cases eb
  | .tup as, .non, u, ha, hb => by
    obtain ⟨la, ia, ea, qa, ra⟩ := ha
    have eb : u = Value.none := hb
    rw [ea] at eb; cases eb
  | .tup as, .bl b, u, ha, hb => by
    obtain ⟨la, ia, ea, qa, ra⟩ := ha
    have eb : u = Value.bool b := hb
    rw [ea] at eb; cases eb
  | .tup as, .int b, u, ha, hb => by
    obtain ⟨la, ia, ea, qa, ra⟩ := ha
    obtain ⟨tb, eb⟩ := hb
    rw [ea] at eb; cases eb
  | .tup as, .str b, u, ha, hb => by
    obtain ⟨la, ia, ea, qa, ra⟩ := ha
    obtain ⟨tb, eb⟩ := hb
    rw [ea] at eb; cases eb
  | .tup as, .tup bs, u, ha, hb => by
    obtain ⟨la, ia, rfl, qa, ra⟩ := ha
    obtain ⟨lb, ib, e, qb, rb⟩ := hb
    cases e
    cases IsTuple.inj qa qb
    rw [Trees.unique as bs _ ra rb]
  | .tup as, .lst bs, u, ha, hb => by
    obtain ⟨la, ia, ea, qa, ra⟩ := ha
    obtain ⟨lb, ib, eb, qb, rb⟩ := hb
    exfalso; rw [ea] at eb; cases eb; obtain ⟨o, h1, h2, _⟩ := qa; obtain ⟨o2, h3, h4, _⟩ := qb; rw [h1] at h3; cases h3; rw [h2] at h4; exact absurd h4 (by decide)
  | .lst as, .non, u, ha, hb => by
    obtain ⟨la, ia, ea, qa, ra⟩ := ha
    have eb : u = Value.none := hb
    rw [ea] at eb; cases eb
  | .lst as, .bl b, u, ha, hb => by
    obtain ⟨la, ia, ea, qa, ra⟩ := ha
    have eb : u = Value.bool b := hb
    rw [ea] at eb; cases eb
  | .lst as, .int b, u, ha, hb => by
    obtain ⟨la, ia, ea, qa, ra⟩ := ha
    obtain ⟨tb, eb⟩ := hb
    rw [ea] at eb; cases eb
  | .lst as, .str b, u, ha, hb => by
    obtain ⟨la, ia, ea, qa, ra⟩ := ha
    obtain ⟨tb, eb⟩ := hb
    rw [ea] at eb; cases eb
  | .lst as, .tup bs, u, ha, hb => by
    obtain ⟨la, ia, ea, qa, ra⟩ := ha
    obtain ⟨lb, ib, eb, qb, rb⟩ := hb
    exfalso; rw [ea] at eb; cases eb; obtain ⟨o, h1, h2, _⟩ := qa; obtain ⟨o2, h3, h4, _⟩ := qb; rw [h1] at h3; cases h3; rw [h2] at h4; exact absurd h4 (by decide)
  | .lst as, .lst bs, u, ha, hb => by
    obtain ⟨la, ia, rfl, qa, ra⟩ := ha
    obtain ⟨lb, ib, e, qb, rb⟩ := hb
    cases e
    cases IsList.inj qa qb
    rw [Trees.unique as bs _ ra rb]
  | .dct _ _, _, u, ha, _ => ha.elim
  | .nd _ _, _, u, ha, _ => ha.elim
  | .fz _, _, u, ha, _ => ha.elim
  | .ref _, _, u, ha, _ => ha.elim
  | .exc _, _, u, ha, _ => ha.elim
  | .non, .dct _ _, u, _, hb => hb.elim
  | .non, .nd _ _, u, _, hb => hb.elim
  | .non, .fz _, u, _, hb => hb.elim
  | .non, .ref _, u, _, hb => hb.elim
  | .non, .exc _, u, _, hb => hb.elim
  | .bl a, .dct _ _, u, _, hb => hb.elim
  | .bl a, .nd _ _, u, _, hb => hb.elim
  | .bl a, .fz _, u, _, hb => hb.elim
  | .bl a, .ref _, u, _, hb => hb.elim
  | .bl a, .exc _, u, _, hb => hb.elim
  | .int a, .dct _ _, u, _, hb => hb.elim
  | .int a, .nd _ _, u, _, hb => hb.elim
  | .int a, .fz _, u, _, hb => hb.elim
  | .int a, .ref _, u, _, hb => hb.elim
  | .int a, .exc _, u, _, hb => hb.elim
  | .str a, .dct _ _, u, _, hb => hb.elim
  | .str a, .nd _ _, u, _, hb => hb.elim
  | .str a, .fz _, u, _, hb => hb.elim
  | .str a, .ref _, u, _, hb => hb.elim
  | .str a, .exc _, u, _, hb => hb.elim
  | .tup as, .dct _ _, u, _, hb => hb.elim
  | .tup as, .nd _ _, u, _, hb => hb.elim
  | .tup as, .fz _, u, _, hb => hb.elim
  | .tup as, .ref _, u, _, hb => hb.elim
  | .tup as, .exc _, u, _, hb => hb.elim
  | .lst as, .dct _ _, u, _, hb => hb.elim
  | .lst as, .nd _ _, u, _, hb => hb.elim
  | .lst as, .fz _, u, _, hb => hb.elim
  | .lst as, .ref _, u, _, hb => hb.elim
  | .lst as, .exc _, u, _, hb => hb.elim
theorem Trees.unique {h : Heap} : ∀ (xs ys : List D) (us : List Value), Trees h xs us → Trees h ys us → xs = ys
  | [], [], _, _, _ => rfl
  | [], y :: ys, us, ha, hb => by
    obtain ⟨u, r, e, _⟩ := hb
    rw [show us = [] from ha] at e; cases e
  | x :: xs, [], us, ha, hb => by
    obtain ⟨u, r, e, _⟩ := ha
    rw [show us = [] from hb] at e; cases e
  | x :: xs, y :: ys, us, ha, hb => by
    obtain ⟨u, r, rfl, h1, h2⟩ := ha
    obtain ⟨u', r', e, h3, h4⟩ := hb
    cases e
    rw [Tree.unique x y u h1 h3, Trees.unique xs ys r h2 h4]
end
mutual
theorem eqv_self {h : Heap} : ∀ (x : D) (u : Value), Tree h x u → x.eqv x = true
  | .non, _, _ => rfl
  | .bl _, _, _ => by simp [D.eqv]
  | .int _, _, _ => by simp [D.eqv]
  | .str _, _, _ => by simp [D.eqv]
  | .tup ds, u, q => by
    obtain ⟨a, its, _, _, r⟩ := q
    exact eqvs_self ds _ r
  | .lst ds, u, q => by
    obtain ⟨a, its, _, _, r⟩ := q
    exact eqvs_self ds _ r
  | .dct _ _, u, q => q.elim
  | .nd _ _, u, q => q.elim
  | .fz _, u, q => q.elim
  | .ref _, u, q => q.elim
  | .exc _, u, q => q.elim
theorem eqvs_self {h : Heap} : ∀ (xs : List D) (us : List Value), Trees h xs us → eqvs xs xs = true
  | [], _, _ => rfl
  | x :: xs, us, q => by
    obtain ⟨u, r, _, h1, h2⟩ := q
    show (x.eqv x && eqvs xs xs) = true
    rw [eqv_self x u h1, eqvs_self xs r h2]; rfl
end
def pairQ (xs ys : List D) (j : Nat) : Bool := match xs[j]?, ys[j]? with
  | some x, some y => x.eqv y
  | _, _ => false
theorem eqvs_len : ∀ xs ys : List D, ((List.range (min xs.length ys.length)).all (pairQ xs ys) && xs.length == ys.length) = eqvs xs ys
  | [], [] => rfl
  | [], y :: ys => by
    show ((List.range (min 0 _)).all _ && _) = false
    simp
  | x :: xs, [] => by
    show ((List.range (min _ 0)).all _ && _) = false
    simp
  | x :: xs, y :: ys => by
    have ih := eqvs_len xs ys
    have e1 : min (x :: xs).length (y :: ys).length = min xs.length ys.length + 1 := by simp only [List.length_cons]; omega
    have e2 : ((x :: xs).length == (y :: ys).length) = (xs.length == ys.length) := by simp
    have e3 : (List.range (min xs.length ys.length + 1)).all (pairQ (x :: xs) (y :: ys)) = (x.eqv y && (List.range (min xs.length ys.length)).all (pairQ xs ys)) := by
      rw [List.range_succ_eq_map, List.all_cons, List.all_map]
      first | rfl | simp [pairQ, Function.comp_def]
    rw [e1, e2, e3]
    show _ = (x.eqv y && eqvs xs ys)
    rw [← ih, Bool.and_assoc]
theorem eqvs_same {xs ys : List D} (h : xs.length = ys.length) : (List.range xs.length).all (pairQ xs ys) = eqvs xs ys := by
  rw [← eqvs_len, h]
  simp
theorem eqvs_other {xs ys : List D} (h : xs.length ≠ ys.length) : eqvs xs ys = false := by
  rw [← eqvs_len]
  simp [h]
section
variable {A : Around} {s : Shared} {u v : Value} {b c : Bool}
theorem eqc (h : EqAt A s u v b) (e : b = c) : EqAt A s u v c := e ▸ h
theorem rcc (h : RcAt A s u v b) (e : b = c) : RcAt A s u v c := e ▸ h
theorem rnc (h : RcNeAt A s u v b) (e : b = c) : RcNeAt A s u v c := e ▸ h
end
theorem dec_beq {α : Type} [DecidableEq α] (a b : α) : (a == b) = decide (a = b) := by
  by_cases h : a = b
  · subst h; simp
  · simp [h]
mutual
theorem eqAt_tree : ∀ (x y : D) (A : Around) (s : Shared) (u v : Value), Tree s.heap x u → Tree s.heap y v → A.units + min x.depth y.depth < cLine → EqAt A s u v (x.eqv y)
  | .non, .non, A, s, u, v, ha, hb, hu => by
    cases (show u = Value.none from ha)
    cases (show v = Value.none from hb)
    exact EqAt.same _
  | .non, .bl b, A, s, u, v, ha, hb, hu => by
    cases (show u = Value.none from ha)
    cases (show v = Value.bool b from hb)
    exact eqc (EqAt.none_bool b) rfl
  | .non, .int b, A, s, u, v, ha, hb, hu => by
    cases (show u = Value.none from ha)
    obtain ⟨tb, rfl⟩ := hb
    exact eqc (EqAt.none_int b tb) rfl
  | .non, .str b, A, s, u, v, ha, hb, hu => by
    cases (show u = Value.none from ha)
    obtain ⟨tb, rfl⟩ := hb
    exact eqc (EqAt.none_str b tb) rfl
  | .non, .tup bs, A, s, u, v, ha, hb, hu => by
    cases (show u = Value.none from ha)
    obtain ⟨lb, ib, rfl, qb, rb⟩ := hb
    exact eqc (EqAt.none_tuple qb (room_here hu)) rfl
  | .non, .lst bs, A, s, u, v, ha, hb, hu => by
    cases (show u = Value.none from ha)
    obtain ⟨lb, ib, rfl, qb, rb⟩ := hb
    exact eqc (EqAt.none_list qb (room_here hu)) rfl
  | .bl a, .non, A, s, u, v, ha, hb, hu => by
    cases (show u = Value.bool a from ha)
    cases (show v = Value.none from hb)
    exact eqc (EqAt.bool_none a) rfl
  | .bl a, .bl b, A, s, u, v, ha, hb, hu => by
    cases (show u = Value.bool a from ha)
    cases (show v = Value.bool b from hb)
    exact eqc (EqAt.bool_bool a b) rfl
  | .bl a, .int b, A, s, u, v, ha, hb, hu => by
    cases (show u = Value.bool a from ha)
    obtain ⟨tb, rfl⟩ := hb
    exact eqc (EqAt.bool_int a b tb) (by simp only [D.eqv, dec_beq, bne])
  | .bl a, .str b, A, s, u, v, ha, hb, hu => by
    cases (show u = Value.bool a from ha)
    obtain ⟨tb, rfl⟩ := hb
    exact eqc (EqAt.bool_str a b tb) rfl
  | .bl a, .tup bs, A, s, u, v, ha, hb, hu => by
    cases (show u = Value.bool a from ha)
    obtain ⟨lb, ib, rfl, qb, rb⟩ := hb
    exact eqc (EqAt.bool_tuple a qb (room_here hu)) rfl
  | .bl a, .lst bs, A, s, u, v, ha, hb, hu => by
    cases (show u = Value.bool a from ha)
    obtain ⟨lb, ib, rfl, qb, rb⟩ := hb
    exact eqc (EqAt.bool_list a qb (room_here hu)) rfl
  | .int a, .non, A, s, u, v, ha, hb, hu => by
    obtain ⟨ta, rfl⟩ := ha
    cases (show v = Value.none from hb)
    exact eqc (EqAt.int_none a ta) rfl
  | .int a, .bl b, A, s, u, v, ha, hb, hu => by
    obtain ⟨ta, rfl⟩ := ha
    cases (show v = Value.bool b from hb)
    exact eqc (EqAt.int_bool a ta b) (by simp only [D.eqv, dec_beq, bne])
  | .int a, .int b, A, s, u, v, ha, hb, hu => by
    obtain ⟨ta, rfl⟩ := ha
    obtain ⟨tb, rfl⟩ := hb
    exact eqc (EqAt.int_int a ta b tb) (by simp only [D.eqv, dec_beq, bne])
  | .int a, .str b, A, s, u, v, ha, hb, hu => by
    obtain ⟨ta, rfl⟩ := ha
    obtain ⟨tb, rfl⟩ := hb
    exact eqc (EqAt.int_str a ta b tb) rfl
  | .int a, .tup bs, A, s, u, v, ha, hb, hu => by
    obtain ⟨ta, rfl⟩ := ha
    obtain ⟨lb, ib, rfl, qb, rb⟩ := hb
    exact eqc (EqAt.int_tuple a ta qb (room_here hu)) rfl
  | .int a, .lst bs, A, s, u, v, ha, hb, hu => by
    obtain ⟨ta, rfl⟩ := ha
    obtain ⟨lb, ib, rfl, qb, rb⟩ := hb
    exact eqc (EqAt.int_list a ta qb (room_here hu)) rfl
  | .str a, .non, A, s, u, v, ha, hb, hu => by
    obtain ⟨ta, rfl⟩ := ha
    cases (show v = Value.none from hb)
    exact eqc (EqAt.str_none a ta) rfl
  | .str a, .bl b, A, s, u, v, ha, hb, hu => by
    obtain ⟨ta, rfl⟩ := ha
    cases (show v = Value.bool b from hb)
    exact eqc (EqAt.str_bool a ta b) rfl
  | .str a, .int b, A, s, u, v, ha, hb, hu => by
    obtain ⟨ta, rfl⟩ := ha
    obtain ⟨tb, rfl⟩ := hb
    exact eqc (EqAt.str_int a ta b tb) rfl
  | .str a, .str b, A, s, u, v, ha, hb, hu => by
    obtain ⟨ta, rfl⟩ := ha
    obtain ⟨tb, rfl⟩ := hb
    exact eqc (EqAt.str_str a ta b tb) (by simp only [D.eqv, dec_beq, bne])
  | .str a, .tup bs, A, s, u, v, ha, hb, hu => by
    obtain ⟨ta, rfl⟩ := ha
    obtain ⟨lb, ib, rfl, qb, rb⟩ := hb
    exact eqc (EqAt.str_tuple a ta qb (room_here hu)) rfl
  | .str a, .lst bs, A, s, u, v, ha, hb, hu => by
    obtain ⟨ta, rfl⟩ := ha
    obtain ⟨lb, ib, rfl, qb, rb⟩ := hb
    exact eqc (EqAt.str_list a ta qb (room_here hu)) rfl
  | .tup as, .non, A, s, u, v, ha, hb, hu => by
    obtain ⟨la, ia, rfl, qa, ra⟩ := ha
    cases (show v = Value.none from hb)
    exact eqc (EqAt.tuple_none qa (room_here hu)) rfl
  | .tup as, .bl b, A, s, u, v, ha, hb, hu => by
    obtain ⟨la, ia, rfl, qa, ra⟩ := ha
    cases (show v = Value.bool b from hb)
    exact eqc (EqAt.tuple_bool b qa (room_here hu)) rfl
  | .tup as, .int b, A, s, u, v, ha, hb, hu => by
    obtain ⟨la, ia, rfl, qa, ra⟩ := ha
    obtain ⟨tb, rfl⟩ := hb
    exact eqc (EqAt.tuple_int b tb qa (room_here hu)) rfl
  | .tup as, .str b, A, s, u, v, ha, hb, hu => by
    obtain ⟨la, ia, rfl, qa, ra⟩ := ha
    obtain ⟨tb, rfl⟩ := hb
    exact eqc (EqAt.tuple_str b tb qa (room_here hu)) rfl
  | .tup as, .tup bs, A, s, u, v, ha, hb, hu => by
    obtain ⟨la, ia, rfl, qa, ra⟩ := ha
    obtain ⟨lb, ib, rfl, qb, rb⟩ := hb
    have n1 : ia.size = as.length := by simpa using Trees.length _ _ ra
    have n2 : ib.size = bs.length := by simpa using Trees.length _ _ rb
    have hu2 : A.units + min (depths as + 1) (depths bs + 1) < cLine := hu
    have he : ∀ j (j1 : j < ia.size) (j2 : j < ib.size), EqAt A.in1 s ia[j] ib[j] (pairQ as bs j) := fun j j1 j2 => by
      have := eqAt_trees as bs A.in1 s ia.toList ib.toList ra rb (room_in hu2) j (by simpa using j1) (by simpa using j2)
      simpa using this
    show EqAt A s (.ref la) (.ref lb) (eqvs as bs)
    by_cases hll : la = lb
    · subst hll
      cases IsTuple.inj qa qb
      rw [Trees.unique as bs _ ra rb, eqvs_self bs _ rb]
      exact EqAt.same _
    · rw [← eqvs_len as bs, ← n1, ← n2]
      exact EqAt.of_refs hll (RcAt.tuples qa qb (room_here hu) he)
  | .tup as, .lst bs, A, s, u, v, ha, hb, hu => by
    obtain ⟨la, ia, rfl, qa, ra⟩ := ha
    obtain ⟨lb, ib, rfl, qb, rb⟩ := hb
    exact eqc (EqAt.tuple_list qa qb (room_here hu)) rfl
  | .lst as, .non, A, s, u, v, ha, hb, hu => by
    obtain ⟨la, ia, rfl, qa, ra⟩ := ha
    cases (show v = Value.none from hb)
    exact eqc (EqAt.list_none qa (room_here hu)) rfl
  | .lst as, .bl b, A, s, u, v, ha, hb, hu => by
    obtain ⟨la, ia, rfl, qa, ra⟩ := ha
    cases (show v = Value.bool b from hb)
    exact eqc (EqAt.list_bool b qa (room_here hu)) rfl
  | .lst as, .int b, A, s, u, v, ha, hb, hu => by
    obtain ⟨la, ia, rfl, qa, ra⟩ := ha
    obtain ⟨tb, rfl⟩ := hb
    exact eqc (EqAt.list_int b tb qa (room_here hu)) rfl
  | .lst as, .str b, A, s, u, v, ha, hb, hu => by
    obtain ⟨la, ia, rfl, qa, ra⟩ := ha
    obtain ⟨tb, rfl⟩ := hb
    exact eqc (EqAt.list_str b tb qa (room_here hu)) rfl
  | .lst as, .tup bs, A, s, u, v, ha, hb, hu => by
    obtain ⟨la, ia, rfl, qa, ra⟩ := ha
    obtain ⟨lb, ib, rfl, qb, rb⟩ := hb
    exact eqc (EqAt.list_tuple qa qb (room_here hu)) rfl
  | .lst as, .lst bs, A, s, u, v, ha, hb, hu => by
    obtain ⟨la, ia, rfl, qa, ra⟩ := ha
    obtain ⟨lb, ib, rfl, qb, rb⟩ := hb
    have n1 : ia.size = as.length := by simpa using Trees.length _ _ ra
    have n2 : ib.size = bs.length := by simpa using Trees.length _ _ rb
    have hu2 : A.units + min (depths as + 1) (depths bs + 1) < cLine := hu
    have he : ∀ j (j1 : j < ia.size) (j2 : j < ib.size), EqAt A.in1 s ia[j] ib[j] (pairQ as bs j) := fun j j1 j2 => by
      have := eqAt_trees as bs A.in1 s ia.toList ib.toList ra rb (room_in hu2) j (by simpa using j1) (by simpa using j2)
      simpa using this
    show EqAt A s (.ref la) (.ref lb) (eqvs as bs)
    by_cases hll : la = lb
    · subst hll
      cases IsList.inj qa qb
      rw [Trees.unique as bs _ ra rb, eqvs_self bs _ rb]
      exact EqAt.same _
    · by_cases hsz : ia.size = ib.size
      · rw [← eqvs_same (by omega : as.length = bs.length), ← n1]
        exact EqAt.of_refs hll (RcAt.lists qa qb hsz (room_here hu) he)
      · rw [eqvs_other (by omega : as.length ≠ bs.length)]
        exact EqAt.of_refs hll (RcAt.lists_lengths qa qb (by simpa using hsz) (room_here hu))
  | .dct _ _, _, A, s, u, v, ha, _, _ => ha.elim
  | .nd _ _, _, A, s, u, v, ha, _, _ => ha.elim
  | .fz _, _, A, s, u, v, ha, _, _ => ha.elim
  | .ref _, _, A, s, u, v, ha, _, _ => ha.elim
  | .exc _, _, A, s, u, v, ha, _, _ => ha.elim
  | .non, .dct _ _, A, s, u, v, _, hb, _ => hb.elim
  | .non, .nd _ _, A, s, u, v, _, hb, _ => hb.elim
  | .non, .fz _, A, s, u, v, _, hb, _ => hb.elim
  | .non, .ref _, A, s, u, v, _, hb, _ => hb.elim
  | .non, .exc _, A, s, u, v, _, hb, _ => hb.elim
  | .bl a, .dct _ _, A, s, u, v, _, hb, _ => hb.elim
  | .bl a, .nd _ _, A, s, u, v, _, hb, _ => hb.elim
  | .bl a, .fz _, A, s, u, v, _, hb, _ => hb.elim
  | .bl a, .ref _, A, s, u, v, _, hb, _ => hb.elim
  | .bl a, .exc _, A, s, u, v, _, hb, _ => hb.elim
  | .int a, .dct _ _, A, s, u, v, _, hb, _ => hb.elim
  | .int a, .nd _ _, A, s, u, v, _, hb, _ => hb.elim
  | .int a, .fz _, A, s, u, v, _, hb, _ => hb.elim
  | .int a, .ref _, A, s, u, v, _, hb, _ => hb.elim
  | .int a, .exc _, A, s, u, v, _, hb, _ => hb.elim
  | .str a, .dct _ _, A, s, u, v, _, hb, _ => hb.elim
  | .str a, .nd _ _, A, s, u, v, _, hb, _ => hb.elim
  | .str a, .fz _, A, s, u, v, _, hb, _ => hb.elim
  | .str a, .ref _, A, s, u, v, _, hb, _ => hb.elim
  | .str a, .exc _, A, s, u, v, _, hb, _ => hb.elim
  | .tup as, .dct _ _, A, s, u, v, _, hb, _ => hb.elim
  | .tup as, .nd _ _, A, s, u, v, _, hb, _ => hb.elim
  | .tup as, .fz _, A, s, u, v, _, hb, _ => hb.elim
  | .tup as, .ref _, A, s, u, v, _, hb, _ => hb.elim
  | .tup as, .exc _, A, s, u, v, _, hb, _ => hb.elim
  | .lst as, .dct _ _, A, s, u, v, _, hb, _ => hb.elim
  | .lst as, .nd _ _, A, s, u, v, _, hb, _ => hb.elim
  | .lst as, .fz _, A, s, u, v, _, hb, _ => hb.elim
  | .lst as, .ref _, A, s, u, v, _, hb, _ => hb.elim
  | .lst as, .exc _, A, s, u, v, _, hb, _ => hb.elim
theorem eqAt_trees : ∀ (xs ys : List D) (A : Around) (s : Shared) (us vs : List Value), Trees s.heap xs us → Trees s.heap ys vs → A.units + min (depths xs) (depths ys) < cLine → ∀ j (h1 : j < us.length) (h2 : j < vs.length), EqAt A s us[j] vs[j] (pairQ xs ys j)
  | [], _, _, _, us, _, ra, _, _, j, h1, _ => by
    cases (show us = [] from ra); exact absurd h1 (Nat.not_lt_zero _)
  | _ :: _, [], _, _, _, vs, _, rb, _, j, _, h2 => by
    cases (show vs = [] from rb); exact absurd h2 (Nat.not_lt_zero _)
  | x :: xs, y :: ys, A, s, us, vs, ra, rb, hu, j, h1, h2 => by
    obtain ⟨u, r, rfl, h3, h4⟩ := ra
    obtain ⟨v, r', rfl, h5, h6⟩ := rb
    cases j with
    | zero => exact eqAt_tree x y A s u v h3 h5 (room_head hu)
    | succ j => exact eqAt_trees xs ys A s r r' h4 h6 (room_tail hu) j (Nat.lt_of_succ_lt_succ h1) (Nat.lt_of_succ_lt_succ h2)
end
theorem rcAt_tree : ∀ (x y : D) (A : Around) (s : Shared) (u v : Value), Tree s.heap x u → Tree s.heap y v → A.units + min x.depth y.depth < cLine → RcAt A s u v (x.eqv y)
  | .non, .non, A, s, u, v, ha, hb, hu => by
    cases (show u = Value.none from ha)
    cases (show v = Value.none from hb)
    exact RcAt.none_none
  | .non, .bl b, A, s, u, v, ha, hb, hu => by
    cases (show u = Value.none from ha)
    cases (show v = Value.bool b from hb)
    exact rcc (RcAt.none_bool b) rfl
  | .non, .int b, A, s, u, v, ha, hb, hu => by
    cases (show u = Value.none from ha)
    obtain ⟨tb, rfl⟩ := hb
    exact rcc (RcAt.none_int b tb) rfl
  | .non, .str b, A, s, u, v, ha, hb, hu => by
    cases (show u = Value.none from ha)
    obtain ⟨tb, rfl⟩ := hb
    exact rcc (RcAt.none_str b tb) rfl
  | .non, .tup bs, A, s, u, v, ha, hb, hu => by
    cases (show u = Value.none from ha)
    obtain ⟨lb, ib, rfl, qb, rb⟩ := hb
    exact rcc (RcAt.none_tuple qb (room_here hu)) rfl
  | .non, .lst bs, A, s, u, v, ha, hb, hu => by
    cases (show u = Value.none from ha)
    obtain ⟨lb, ib, rfl, qb, rb⟩ := hb
    exact rcc (RcAt.none_list qb (room_here hu)) rfl
  | .bl a, .non, A, s, u, v, ha, hb, hu => by
    cases (show u = Value.bool a from ha)
    cases (show v = Value.none from hb)
    exact rcc (RcAt.bool_none a) rfl
  | .bl a, .bl b, A, s, u, v, ha, hb, hu => by
    cases (show u = Value.bool a from ha)
    cases (show v = Value.bool b from hb)
    exact rcc (RcAt.bool_bool a b) rfl
  | .bl a, .int b, A, s, u, v, ha, hb, hu => by
    cases (show u = Value.bool a from ha)
    obtain ⟨tb, rfl⟩ := hb
    exact rcc (RcAt.bool_int a b tb) (by simp only [D.eqv, dec_beq, bne])
  | .bl a, .str b, A, s, u, v, ha, hb, hu => by
    cases (show u = Value.bool a from ha)
    obtain ⟨tb, rfl⟩ := hb
    exact rcc (RcAt.bool_str a b tb) rfl
  | .bl a, .tup bs, A, s, u, v, ha, hb, hu => by
    cases (show u = Value.bool a from ha)
    obtain ⟨lb, ib, rfl, qb, rb⟩ := hb
    exact rcc (RcAt.bool_tuple a qb (room_here hu)) rfl
  | .bl a, .lst bs, A, s, u, v, ha, hb, hu => by
    cases (show u = Value.bool a from ha)
    obtain ⟨lb, ib, rfl, qb, rb⟩ := hb
    exact rcc (RcAt.bool_list a qb (room_here hu)) rfl
  | .int a, .non, A, s, u, v, ha, hb, hu => by
    obtain ⟨ta, rfl⟩ := ha
    cases (show v = Value.none from hb)
    exact rcc (RcAt.int_none a ta) rfl
  | .int a, .bl b, A, s, u, v, ha, hb, hu => by
    obtain ⟨ta, rfl⟩ := ha
    cases (show v = Value.bool b from hb)
    exact rcc (RcAt.int_bool a ta b) (by simp only [D.eqv, dec_beq, bne])
  | .int a, .int b, A, s, u, v, ha, hb, hu => by
    obtain ⟨ta, rfl⟩ := ha
    obtain ⟨tb, rfl⟩ := hb
    exact rcc (RcAt.int_int a ta b tb) (by simp only [D.eqv, dec_beq, bne])
  | .int a, .str b, A, s, u, v, ha, hb, hu => by
    obtain ⟨ta, rfl⟩ := ha
    obtain ⟨tb, rfl⟩ := hb
    exact rcc (RcAt.int_str a ta b tb) rfl
  | .int a, .tup bs, A, s, u, v, ha, hb, hu => by
    obtain ⟨ta, rfl⟩ := ha
    obtain ⟨lb, ib, rfl, qb, rb⟩ := hb
    exact rcc (RcAt.int_tuple a ta qb (room_here hu)) rfl
  | .int a, .lst bs, A, s, u, v, ha, hb, hu => by
    obtain ⟨ta, rfl⟩ := ha
    obtain ⟨lb, ib, rfl, qb, rb⟩ := hb
    exact rcc (RcAt.int_list a ta qb (room_here hu)) rfl
  | .str a, .non, A, s, u, v, ha, hb, hu => by
    obtain ⟨ta, rfl⟩ := ha
    cases (show v = Value.none from hb)
    exact rcc (RcAt.str_none a ta) rfl
  | .str a, .bl b, A, s, u, v, ha, hb, hu => by
    obtain ⟨ta, rfl⟩ := ha
    cases (show v = Value.bool b from hb)
    exact rcc (RcAt.str_bool a ta b) rfl
  | .str a, .int b, A, s, u, v, ha, hb, hu => by
    obtain ⟨ta, rfl⟩ := ha
    obtain ⟨tb, rfl⟩ := hb
    exact rcc (RcAt.str_int a ta b tb) rfl
  | .str a, .str b, A, s, u, v, ha, hb, hu => by
    obtain ⟨ta, rfl⟩ := ha
    obtain ⟨tb, rfl⟩ := hb
    exact rcc (RcAt.str_str a ta b tb) (by simp only [D.eqv, dec_beq, bne])
  | .str a, .tup bs, A, s, u, v, ha, hb, hu => by
    obtain ⟨ta, rfl⟩ := ha
    obtain ⟨lb, ib, rfl, qb, rb⟩ := hb
    exact rcc (RcAt.str_tuple a ta qb (room_here hu)) rfl
  | .str a, .lst bs, A, s, u, v, ha, hb, hu => by
    obtain ⟨ta, rfl⟩ := ha
    obtain ⟨lb, ib, rfl, qb, rb⟩ := hb
    exact rcc (RcAt.str_list a ta qb (room_here hu)) rfl
  | .tup as, .non, A, s, u, v, ha, hb, hu => by
    obtain ⟨la, ia, rfl, qa, ra⟩ := ha
    cases (show v = Value.none from hb)
    exact rcc (RcAt.tuple_none qa (room_here hu)) rfl
  | .tup as, .bl b, A, s, u, v, ha, hb, hu => by
    obtain ⟨la, ia, rfl, qa, ra⟩ := ha
    cases (show v = Value.bool b from hb)
    exact rcc (RcAt.tuple_bool b qa (room_here hu)) rfl
  | .tup as, .int b, A, s, u, v, ha, hb, hu => by
    obtain ⟨la, ia, rfl, qa, ra⟩ := ha
    obtain ⟨tb, rfl⟩ := hb
    exact rcc (RcAt.tuple_int b tb qa (room_here hu)) rfl
  | .tup as, .str b, A, s, u, v, ha, hb, hu => by
    obtain ⟨la, ia, rfl, qa, ra⟩ := ha
    obtain ⟨tb, rfl⟩ := hb
    exact rcc (RcAt.tuple_str b tb qa (room_here hu)) rfl
  | .tup as, .tup bs, A, s, u, v, ha, hb, hu => by
    obtain ⟨la, ia, rfl, qa, ra⟩ := ha
    obtain ⟨lb, ib, rfl, qb, rb⟩ := hb
    have n1 : ia.size = as.length := by simpa using Trees.length _ _ ra
    have n2 : ib.size = bs.length := by simpa using Trees.length _ _ rb
    have hu2 : A.units + min (depths as + 1) (depths bs + 1) < cLine := hu
    have he : ∀ j (j1 : j < ia.size) (j2 : j < ib.size), EqAt A.in1 s ia[j] ib[j] (pairQ as bs j) := fun j j1 j2 => by
      have := eqAt_trees as bs A.in1 s ia.toList ib.toList ra rb (room_in hu2) j (by simpa using j1) (by simpa using j2)
      simpa using this
    show RcAt A s (.ref la) (.ref lb) (eqvs as bs)
    rw [← eqvs_len as bs, ← n1, ← n2]
    exact RcAt.tuples qa qb (room_here hu) he
  | .tup as, .lst bs, A, s, u, v, ha, hb, hu => by
    obtain ⟨la, ia, rfl, qa, ra⟩ := ha
    obtain ⟨lb, ib, rfl, qb, rb⟩ := hb
    exact rcc (RcAt.tuple_list qa qb (room_here hu)) rfl
  | .lst as, .non, A, s, u, v, ha, hb, hu => by
    obtain ⟨la, ia, rfl, qa, ra⟩ := ha
    cases (show v = Value.none from hb)
    exact rcc (RcAt.list_none qa (room_here hu)) rfl
  | .lst as, .bl b, A, s, u, v, ha, hb, hu => by
    obtain ⟨la, ia, rfl, qa, ra⟩ := ha
    cases (show v = Value.bool b from hb)
    exact rcc (RcAt.list_bool b qa (room_here hu)) rfl
  | .lst as, .int b, A, s, u, v, ha, hb, hu => by
    obtain ⟨la, ia, rfl, qa, ra⟩ := ha
    obtain ⟨tb, rfl⟩ := hb
    exact rcc (RcAt.list_int b tb qa (room_here hu)) rfl
  | .lst as, .str b, A, s, u, v, ha, hb, hu => by
    obtain ⟨la, ia, rfl, qa, ra⟩ := ha
    obtain ⟨tb, rfl⟩ := hb
    exact rcc (RcAt.list_str b tb qa (room_here hu)) rfl
  | .lst as, .tup bs, A, s, u, v, ha, hb, hu => by
    obtain ⟨la, ia, rfl, qa, ra⟩ := ha
    obtain ⟨lb, ib, rfl, qb, rb⟩ := hb
    exact rcc (RcAt.list_tuple qa qb (room_here hu)) rfl
  | .lst as, .lst bs, A, s, u, v, ha, hb, hu => by
    obtain ⟨la, ia, rfl, qa, ra⟩ := ha
    obtain ⟨lb, ib, rfl, qb, rb⟩ := hb
    have n1 : ia.size = as.length := by simpa using Trees.length _ _ ra
    have n2 : ib.size = bs.length := by simpa using Trees.length _ _ rb
    have hu2 : A.units + min (depths as + 1) (depths bs + 1) < cLine := hu
    have he : ∀ j (j1 : j < ia.size) (j2 : j < ib.size), EqAt A.in1 s ia[j] ib[j] (pairQ as bs j) := fun j j1 j2 => by
      have := eqAt_trees as bs A.in1 s ia.toList ib.toList ra rb (room_in hu2) j (by simpa using j1) (by simpa using j2)
      simpa using this
    show RcAt A s (.ref la) (.ref lb) (eqvs as bs)
    by_cases hsz : ia.size = ib.size
    · rw [← eqvs_same (by omega : as.length = bs.length), ← n1]
      exact RcAt.lists qa qb hsz (room_here hu) he
    · rw [eqvs_other (by omega : as.length ≠ bs.length)]
      exact RcAt.lists_lengths qa qb (by simpa using hsz) (room_here hu)
  | .dct _ _, _, A, s, u, v, ha, _, _ => ha.elim
  | .nd _ _, _, A, s, u, v, ha, _, _ => ha.elim
  | .fz _, _, A, s, u, v, ha, _, _ => ha.elim
  | .ref _, _, A, s, u, v, ha, _, _ => ha.elim
  | .exc _, _, A, s, u, v, ha, _, _ => ha.elim
  | .non, .dct _ _, A, s, u, v, _, hb, _ => hb.elim
  | .non, .nd _ _, A, s, u, v, _, hb, _ => hb.elim
  | .non, .fz _, A, s, u, v, _, hb, _ => hb.elim
  | .non, .ref _, A, s, u, v, _, hb, _ => hb.elim
  | .non, .exc _, A, s, u, v, _, hb, _ => hb.elim
  | .bl a, .dct _ _, A, s, u, v, _, hb, _ => hb.elim
  | .bl a, .nd _ _, A, s, u, v, _, hb, _ => hb.elim
  | .bl a, .fz _, A, s, u, v, _, hb, _ => hb.elim
  | .bl a, .ref _, A, s, u, v, _, hb, _ => hb.elim
  | .bl a, .exc _, A, s, u, v, _, hb, _ => hb.elim
  | .int a, .dct _ _, A, s, u, v, _, hb, _ => hb.elim
  | .int a, .nd _ _, A, s, u, v, _, hb, _ => hb.elim
  | .int a, .fz _, A, s, u, v, _, hb, _ => hb.elim
  | .int a, .ref _, A, s, u, v, _, hb, _ => hb.elim
  | .int a, .exc _, A, s, u, v, _, hb, _ => hb.elim
  | .str a, .dct _ _, A, s, u, v, _, hb, _ => hb.elim
  | .str a, .nd _ _, A, s, u, v, _, hb, _ => hb.elim
  | .str a, .fz _, A, s, u, v, _, hb, _ => hb.elim
  | .str a, .ref _, A, s, u, v, _, hb, _ => hb.elim
  | .str a, .exc _, A, s, u, v, _, hb, _ => hb.elim
  | .tup as, .dct _ _, A, s, u, v, _, hb, _ => hb.elim
  | .tup as, .nd _ _, A, s, u, v, _, hb, _ => hb.elim
  | .tup as, .fz _, A, s, u, v, _, hb, _ => hb.elim
  | .tup as, .ref _, A, s, u, v, _, hb, _ => hb.elim
  | .tup as, .exc _, A, s, u, v, _, hb, _ => hb.elim
  | .lst as, .dct _ _, A, s, u, v, _, hb, _ => hb.elim
  | .lst as, .nd _ _, A, s, u, v, _, hb, _ => hb.elim
  | .lst as, .fz _, A, s, u, v, _, hb, _ => hb.elim
  | .lst as, .ref _, A, s, u, v, _, hb, _ => hb.elim
  | .lst as, .exc _, A, s, u, v, _, hb, _ => hb.elim
theorem rcNeAt_tree : ∀ (x y : D) (A : Around) (s : Shared) (u v : Value), Tree s.heap x u → Tree s.heap y v → A.units + min x.depth y.depth < cLine → RcNeAt A s u v (!x.eqv y)
  | .non, .non, A, s, u, v, ha, hb, hu => by
    cases (show u = Value.none from ha)
    cases (show v = Value.none from hb)
    exact RcNeAt.none_none
  | .non, .bl b, A, s, u, v, ha, hb, hu => by
    cases (show u = Value.none from ha)
    cases (show v = Value.bool b from hb)
    exact rnc (RcNeAt.none_bool b) rfl
  | .non, .int b, A, s, u, v, ha, hb, hu => by
    cases (show u = Value.none from ha)
    obtain ⟨tb, rfl⟩ := hb
    exact rnc (RcNeAt.none_int b tb) rfl
  | .non, .str b, A, s, u, v, ha, hb, hu => by
    cases (show u = Value.none from ha)
    obtain ⟨tb, rfl⟩ := hb
    exact rnc (RcNeAt.none_str b tb) rfl
  | .non, .tup bs, A, s, u, v, ha, hb, hu => by
    cases (show u = Value.none from ha)
    obtain ⟨lb, ib, rfl, qb, rb⟩ := hb
    exact rnc (RcNeAt.none_tuple qb (room_here hu)) rfl
  | .non, .lst bs, A, s, u, v, ha, hb, hu => by
    cases (show u = Value.none from ha)
    obtain ⟨lb, ib, rfl, qb, rb⟩ := hb
    exact rnc (RcNeAt.none_list qb (room_here hu)) rfl
  | .bl a, .non, A, s, u, v, ha, hb, hu => by
    cases (show u = Value.bool a from ha)
    cases (show v = Value.none from hb)
    exact rnc (RcNeAt.bool_none a) rfl
  | .bl a, .bl b, A, s, u, v, ha, hb, hu => by
    cases (show u = Value.bool a from ha)
    cases (show v = Value.bool b from hb)
    exact rnc (RcNeAt.bool_bool a b) rfl
  | .bl a, .int b, A, s, u, v, ha, hb, hu => by
    cases (show u = Value.bool a from ha)
    obtain ⟨tb, rfl⟩ := hb
    exact rnc (RcNeAt.bool_int a b tb) (by simp only [D.eqv, dec_beq, bne])
  | .bl a, .str b, A, s, u, v, ha, hb, hu => by
    cases (show u = Value.bool a from ha)
    obtain ⟨tb, rfl⟩ := hb
    exact rnc (RcNeAt.bool_str a b tb) rfl
  | .bl a, .tup bs, A, s, u, v, ha, hb, hu => by
    cases (show u = Value.bool a from ha)
    obtain ⟨lb, ib, rfl, qb, rb⟩ := hb
    exact rnc (RcNeAt.bool_tuple a qb (room_here hu)) rfl
  | .bl a, .lst bs, A, s, u, v, ha, hb, hu => by
    cases (show u = Value.bool a from ha)
    obtain ⟨lb, ib, rfl, qb, rb⟩ := hb
    exact rnc (RcNeAt.bool_list a qb (room_here hu)) rfl
  | .int a, .non, A, s, u, v, ha, hb, hu => by
    obtain ⟨ta, rfl⟩ := ha
    cases (show v = Value.none from hb)
    exact rnc (RcNeAt.int_none a ta) rfl
  | .int a, .bl b, A, s, u, v, ha, hb, hu => by
    obtain ⟨ta, rfl⟩ := ha
    cases (show v = Value.bool b from hb)
    exact rnc (RcNeAt.int_bool a ta b) (by simp only [D.eqv, dec_beq, bne])
  | .int a, .int b, A, s, u, v, ha, hb, hu => by
    obtain ⟨ta, rfl⟩ := ha
    obtain ⟨tb, rfl⟩ := hb
    exact rnc (RcNeAt.int_int a ta b tb) (by simp only [D.eqv, dec_beq, bne])
  | .int a, .str b, A, s, u, v, ha, hb, hu => by
    obtain ⟨ta, rfl⟩ := ha
    obtain ⟨tb, rfl⟩ := hb
    exact rnc (RcNeAt.int_str a ta b tb) rfl
  | .int a, .tup bs, A, s, u, v, ha, hb, hu => by
    obtain ⟨ta, rfl⟩ := ha
    obtain ⟨lb, ib, rfl, qb, rb⟩ := hb
    exact rnc (RcNeAt.int_tuple a ta qb (room_here hu)) rfl
  | .int a, .lst bs, A, s, u, v, ha, hb, hu => by
    obtain ⟨ta, rfl⟩ := ha
    obtain ⟨lb, ib, rfl, qb, rb⟩ := hb
    exact rnc (RcNeAt.int_list a ta qb (room_here hu)) rfl
  | .str a, .non, A, s, u, v, ha, hb, hu => by
    obtain ⟨ta, rfl⟩ := ha
    cases (show v = Value.none from hb)
    exact rnc (RcNeAt.str_none a ta) rfl
  | .str a, .bl b, A, s, u, v, ha, hb, hu => by
    obtain ⟨ta, rfl⟩ := ha
    cases (show v = Value.bool b from hb)
    exact rnc (RcNeAt.str_bool a ta b) rfl
  | .str a, .int b, A, s, u, v, ha, hb, hu => by
    obtain ⟨ta, rfl⟩ := ha
    obtain ⟨tb, rfl⟩ := hb
    exact rnc (RcNeAt.str_int a ta b tb) rfl
  | .str a, .str b, A, s, u, v, ha, hb, hu => by
    obtain ⟨ta, rfl⟩ := ha
    obtain ⟨tb, rfl⟩ := hb
    exact rnc (RcNeAt.str_str a ta b tb) (by simp only [D.eqv, dec_beq, bne])
  | .str a, .tup bs, A, s, u, v, ha, hb, hu => by
    obtain ⟨ta, rfl⟩ := ha
    obtain ⟨lb, ib, rfl, qb, rb⟩ := hb
    exact rnc (RcNeAt.str_tuple a ta qb (room_here hu)) rfl
  | .str a, .lst bs, A, s, u, v, ha, hb, hu => by
    obtain ⟨ta, rfl⟩ := ha
    obtain ⟨lb, ib, rfl, qb, rb⟩ := hb
    exact rnc (RcNeAt.str_list a ta qb (room_here hu)) rfl
  | .tup as, .non, A, s, u, v, ha, hb, hu => by
    obtain ⟨la, ia, rfl, qa, ra⟩ := ha
    cases (show v = Value.none from hb)
    exact rnc (RcNeAt.tuple_none qa (room_here hu)) rfl
  | .tup as, .bl b, A, s, u, v, ha, hb, hu => by
    obtain ⟨la, ia, rfl, qa, ra⟩ := ha
    cases (show v = Value.bool b from hb)
    exact rnc (RcNeAt.tuple_bool b qa (room_here hu)) rfl
  | .tup as, .int b, A, s, u, v, ha, hb, hu => by
    obtain ⟨la, ia, rfl, qa, ra⟩ := ha
    obtain ⟨tb, rfl⟩ := hb
    exact rnc (RcNeAt.tuple_int b tb qa (room_here hu)) rfl
  | .tup as, .str b, A, s, u, v, ha, hb, hu => by
    obtain ⟨la, ia, rfl, qa, ra⟩ := ha
    obtain ⟨tb, rfl⟩ := hb
    exact rnc (RcNeAt.tuple_str b tb qa (room_here hu)) rfl
  | .tup as, .tup bs, A, s, u, v, ha, hb, hu => by
    obtain ⟨la, ia, rfl, qa, ra⟩ := ha
    obtain ⟨lb, ib, rfl, qb, rb⟩ := hb
    have n1 : ia.size = as.length := by simpa using Trees.length _ _ ra
    have n2 : ib.size = bs.length := by simpa using Trees.length _ _ rb
    have hu2 : A.units + min (depths as + 1) (depths bs + 1) < cLine := hu
    have he : ∀ j (j1 : j < ia.size) (j2 : j < ib.size), EqAt A.in1 s ia[j] ib[j] (pairQ as bs j) := fun j j1 j2 => by
      have := eqAt_trees as bs A.in1 s ia.toList ib.toList ra rb (room_in hu2) j (by simpa using j1) (by simpa using j2)
      simpa using this
    show RcNeAt A s (.ref la) (.ref lb) (!eqvs as bs)
    rw [← eqvs_len as bs, ← n1, ← n2]
    exact RcNeAt.tuples qa qb (room_here hu) he
  | .tup as, .lst bs, A, s, u, v, ha, hb, hu => by
    obtain ⟨la, ia, rfl, qa, ra⟩ := ha
    obtain ⟨lb, ib, rfl, qb, rb⟩ := hb
    exact rnc (RcNeAt.tuple_list qa qb (room_here hu)) rfl
  | .lst as, .non, A, s, u, v, ha, hb, hu => by
    obtain ⟨la, ia, rfl, qa, ra⟩ := ha
    cases (show v = Value.none from hb)
    exact rnc (RcNeAt.list_none qa (room_here hu)) rfl
  | .lst as, .bl b, A, s, u, v, ha, hb, hu => by
    obtain ⟨la, ia, rfl, qa, ra⟩ := ha
    cases (show v = Value.bool b from hb)
    exact rnc (RcNeAt.list_bool b qa (room_here hu)) rfl
  | .lst as, .int b, A, s, u, v, ha, hb, hu => by
    obtain ⟨la, ia, rfl, qa, ra⟩ := ha
    obtain ⟨tb, rfl⟩ := hb
    exact rnc (RcNeAt.list_int b tb qa (room_here hu)) rfl
  | .lst as, .str b, A, s, u, v, ha, hb, hu => by
    obtain ⟨la, ia, rfl, qa, ra⟩ := ha
    obtain ⟨tb, rfl⟩ := hb
    exact rnc (RcNeAt.list_str b tb qa (room_here hu)) rfl
  | .lst as, .tup bs, A, s, u, v, ha, hb, hu => by
    obtain ⟨la, ia, rfl, qa, ra⟩ := ha
    obtain ⟨lb, ib, rfl, qb, rb⟩ := hb
    exact rnc (RcNeAt.list_tuple qa qb (room_here hu)) rfl
  | .lst as, .lst bs, A, s, u, v, ha, hb, hu => by
    obtain ⟨la, ia, rfl, qa, ra⟩ := ha
    obtain ⟨lb, ib, rfl, qb, rb⟩ := hb
    have n1 : ia.size = as.length := by simpa using Trees.length _ _ ra
    have n2 : ib.size = bs.length := by simpa using Trees.length _ _ rb
    have hu2 : A.units + min (depths as + 1) (depths bs + 1) < cLine := hu
    have he : ∀ j (j1 : j < ia.size) (j2 : j < ib.size), EqAt A.in1 s ia[j] ib[j] (pairQ as bs j) := fun j j1 j2 => by
      have := eqAt_trees as bs A.in1 s ia.toList ib.toList ra rb (room_in hu2) j (by simpa using j1) (by simpa using j2)
      simpa using this
    show RcNeAt A s (.ref la) (.ref lb) (!eqvs as bs)
    by_cases hsz : ia.size = ib.size
    · rw [← eqvs_same (by omega : as.length = bs.length), ← n1]
      exact RcNeAt.lists qa qb hsz (room_here hu) he
    · rw [eqvs_other (by omega : as.length ≠ bs.length)]
      exact RcNeAt.lists_lengths qa qb (by simpa using hsz) (room_here hu)
  | .dct _ _, _, A, s, u, v, ha, _, _ => ha.elim
  | .nd _ _, _, A, s, u, v, ha, _, _ => ha.elim
  | .fz _, _, A, s, u, v, ha, _, _ => ha.elim
  | .ref _, _, A, s, u, v, ha, _, _ => ha.elim
  | .exc _, _, A, s, u, v, ha, _, _ => ha.elim
  | .non, .dct _ _, A, s, u, v, _, hb, _ => hb.elim
  | .non, .nd _ _, A, s, u, v, _, hb, _ => hb.elim
  | .non, .fz _, A, s, u, v, _, hb, _ => hb.elim
  | .non, .ref _, A, s, u, v, _, hb, _ => hb.elim
  | .non, .exc _, A, s, u, v, _, hb, _ => hb.elim
  | .bl a, .dct _ _, A, s, u, v, _, hb, _ => hb.elim
  | .bl a, .nd _ _, A, s, u, v, _, hb, _ => hb.elim
  | .bl a, .fz _, A, s, u, v, _, hb, _ => hb.elim
  | .bl a, .ref _, A, s, u, v, _, hb, _ => hb.elim
  | .bl a, .exc _, A, s, u, v, _, hb, _ => hb.elim
  | .int a, .dct _ _, A, s, u, v, _, hb, _ => hb.elim
  | .int a, .nd _ _, A, s, u, v, _, hb, _ => hb.elim
  | .int a, .fz _, A, s, u, v, _, hb, _ => hb.elim
  | .int a, .ref _, A, s, u, v, _, hb, _ => hb.elim
  | .int a, .exc _, A, s, u, v, _, hb, _ => hb.elim
  | .str a, .dct _ _, A, s, u, v, _, hb, _ => hb.elim
  | .str a, .nd _ _, A, s, u, v, _, hb, _ => hb.elim
  | .str a, .fz _, A, s, u, v, _, hb, _ => hb.elim
  | .str a, .ref _, A, s, u, v, _, hb, _ => hb.elim
  | .str a, .exc _, A, s, u, v, _, hb, _ => hb.elim
  | .tup as, .dct _ _, A, s, u, v, _, hb, _ => hb.elim
  | .tup as, .nd _ _, A, s, u, v, _, hb, _ => hb.elim
  | .tup as, .fz _, A, s, u, v, _, hb, _ => hb.elim
  | .tup as, .ref _, A, s, u, v, _, hb, _ => hb.elim
  | .tup as, .exc _, A, s, u, v, _, hb, _ => hb.elim
  | .lst as, .dct _ _, A, s, u, v, _, hb, _ => hb.elim
  | .lst as, .nd _ _, A, s, u, v, _, hb, _ => hb.elim
  | .lst as, .fz _, A, s, u, v, _, hb, _ => hb.elim
  | .lst as, .ref _, A, s, u, v, _, hb, _ => hb.elim
  | .lst as, .exc _, A, s, u, v, _, hb, _ => hb.elim
end Ev
end
section
set_option Elab.async false
set_option linter.all false
set_option maxRecDepth 100000
namespace Ev
open PySem PySem.Spec PyProof.Rows L2 PySem.SeqAt PySem.W
section
variable {prog : Program} {w : World} {K : Type} [DecidableEq K] {knd : HeapKind prog w K} {A : Around} {E : Value → Shared → Prop} {s : Shared}
theorem samePairsH {nm : String} {a b : Addr} {xs ys : List (K × Addr × Value)} {Q : Bool → Shared → Prop} (ha : (a == sysModules) = false) (hb : (b == sysModules) = false)
    (da : s.heap.DictOfH knd a xs) (db : s.heap.DictOfH knd b ys) (hu : knd.room A) (hk : xs.map (·.1) = ys.map (·.1))
    (hv : ∀ (i : Nat) x y, xs[i]? = some x → ys[i]? = some y → EqIn prog w A s x.2.2 y.2.2 true) (h : Q true s) :
    wpAny (model prog w) A (Builtin.Dict.samePairs nm a b) Q E s := by
  obtain ⟨oa, es, ep, hoa, _, hda, hea, hia, _⟩ := da
  obtain ⟨ob, es', ep', hob, _, hdb, heb, hib, hnb⟩ := db
  have hla : es.size = xs.length := size_of_entries hea
  have hlb : es'.size = ys.length := size_of_entries heb
  have hll : xs.length = ys.length := by simpa using congrArg List.length hk
  unfold Builtin.Dict.samePairs Builtin.Dict.showsAll
  rw [if_neg (show ¬ (a == sysModules) = true by rw [ha]; exact Bool.false_ne_true), if_neg (show ¬ (b == sysModules) = true by rw [hb]; exact Bool.false_ne_true)]
  refine wpAny_bind (wpAny_pure (wpAny_bind (wpAny_pure ?_)))
  refine wpAny_bind (wpAny_dictEntries hoa hda ?_)
  dsimp only
  refine wpAny_bind (wpAny_dictEntries hob hdb ?_)
  have hsz : es.size = es'.size := by omega
  rw [if_neg (by rw [hsz]; simp)]
  refine wpAny_bind (wpAny_dictEpoch hoa hda ?_)
  refine wpAny_bind ?_
  rw [Std.Legacy.Range.forIn_eq_forIn_range']
  simp only [Std.Legacy.Range.size, Nat.sub_zero, Nat.add_sub_cancel, Nat.div_one]
  refine wpAny_forIn_list _ (fun rest q s' => s' = s ∧ q = (none, ()) ∧ ∃ i, rest = List.range' i (es.size - i) ∧ i ≤ es.size) _ ?_ ?_ _ _ ⟨rfl, rfl, 0, by simp, Nat.zero_le _⟩
  · rintro x rest q s' ⟨rfl, rfl, i, hr, hi⟩
    have hlt : i < es.size := by
      rcases Nat.lt_or_ge i es.size with h | h
      · exact h
      · rw [Nat.sub_eq_zero_of_le h] at hr; simp at hr
    obtain ⟨rfl, hrest⟩ : x = i ∧ rest = List.range' (i + 1) (es.size - (i + 1)) := by
      have e : es.size - i = (es.size - (i + 1)) + 1 := by omega
      rw [e, List.range'_succ] at hr
      injection hr with h1 h2
      exact ⟨h1, h2⟩
    refine wpAny_bind (wpAny_dictEntries hoa hda ?_)
    have hltx : x < xs.length := by omega
    have hlty : x < ys.length := by omega
    rw [entry_at hea x, List.getElem?_eq_getElem hltx]
    have hkk : (xs[x]).1 = (ys[x]).1 := by
      have e1 : (xs.map (·.1))[x]? = (ys.map (·.1))[x]? := by rw [hk]
      rw [List.getElem?_map, List.getElem?_map, List.getElem?_eq_getElem hltx, List.getElem?_eq_getElem hlty] at e1
      exact Option.some.inj e1
    show wpAny _ _ (holding [Value.ref (xs[x]).2.1, (xs[x]).2.2] (dictFind b (.ref (xs[x]).2.1) (knd.hash (xs[x]).1) >>= _) >>= _) _ _ _
    refine wpAny_bind (wpAny_holding (wpAny_bind (wpAny_dictFind_heap hu (hia _ (List.getElem_mem hltx)) hob hdb heb hib hnb (fun hno => ?_) (fun j p hj => ?_))))
    · exact absurd (show ys[x]? = some ((xs[x]).1, (ys[x]).2) by rw [List.getElem?_eq_getElem hlty, hkk]) (hno x _)
    · have hjx : j = x := by
        obtain ⟨hjl, ej⟩ := List.getElem?_eq_some_iff.mp hj
        have e1 : (ys.map (·.1))[j]'(by simpa using hjl) = (ys.map (·.1))[x]'(by simpa using hlty) := by
          rw [List.getElem_map, List.getElem_map, ej, ← hkk]
        exact (List.getElem_inj hnb).mp e1
      subst hjx
      refine wpAny_bind (wpAny_dictEntries hob hdb ?_)
      rw [entry_at heb j, List.getElem?_eq_getElem hlty]
      refine wpAny_holding (hv j _ _ (List.getElem?_eq_getElem hltx) (List.getElem?_eq_getElem hlty) _ _ ?_)
      show wpAny _ _ (if (!true) = true then _ else _) _ _ _
      rw [if_neg (by decide)]
      refine wpAny_bind (wpAny_dictEpoch hoa hda ?_)
      rw [if_neg (by simp)]
      exact wpAny_pure ⟨rfl, rfl, j + 1, hrest, hlt⟩
  · rintro q s' ⟨rfl, rfl, i, hr, hi⟩
    exact wpAny_pure h
theorem rc_nd {a b : Addr} {xs ys : List (K × Addr × Value)} {Q : Value → Shared → Prop} (ha : (a == sysModules) = false) (hb : (b == sysModules) = false)
    (da : s.heap.DictOfH knd a xs) (db : s.heap.DictOfH knd b ys) (hu : A.units < cLine) (hr : knd.room A.in1) (hk : xs.map (·.1) = ys.map (·.1))
    (hv : ∀ (i : Nat) x y, xs[i]? = some x → ys[i]? = some y → EqIn prog w A.in1 s x.2.2 y.2.2 true) (h : Q (.bool true) s) :
    wpAny (model prog w) A (compareOp .Eq (.ref a) (.ref b)) Q E s := by
  refine wpAny_richCompare_same_room (op := .Eq) da.typeIs db.typeIs PySem.F.slot_dict_eq (wpAny_call_entry PySem.F.slot_dict_eq da.typeIs PySem.F.entry_dict_eq ?_ (PySem.F.args_dict_eq_2 _ _)) hu
  show wpAny _ _ (Builtin.Dict.dictSlotArgs "__eq__" ⟨[.ref a, .ref b], []⟩ >>= _) _ _ s
  refine wpAny_bind ?_
  unfold Builtin.Dict.dictSlotArgs
  refine wpAny_bind (wpAny_notOrdered_dict da.typeIs ?_)
  show wpAny _ _ (pure (Value.ref a, Value.ref b)) _ _ s
  refine wpAny_pure ?_
  refine wpAny_bind (wpAny_isInstance (T := "dict") db.typeIs PySem.F.sub_dict_dict ?_)
  simp only [Bool.not_true, Bool.false_eq_true, if_false]
  refine wpAny_bind (wpAny_pure (wpAny_bind (wpAny_pure ?_)))
  refine wpAny_bind (samePairsH ha hb da db hr hk hv ?_)
  refine wpAny_pure ⟨_, rfl, ?_, ?_⟩
  · exact fun x => nomatch x
  · simpa using h
end

section
variable {h : Heap}
mutual
theorem nk_is : ∀ (d : D) (u : Value), Tree h d u → d.pure = true → NestedIs h d.nk u
  | .non, u, t, _ => by cases (show u = Value.none from t); exact .none
  | .bl b, u, t, _ => by cases (show u = Value.bool b from t); exact .bool rfl
  | .int i, u, t, _ => by obtain ⟨k, rfl⟩ := t; exact .int _ _
  | .str i, u, t, _ => by obtain ⟨k, rfl⟩ := t; exact .text _ _
  | .tup ds, u, t, p => by
    obtain ⟨a, its, rfl, ⟨o, h1, h2, n, h3⟩, ts⟩ := t
    exact .tup h1 h2 h3 (nks_is ds _ ts p)
  | .lst _, _, _, p => nomatch p
  | .fz _, _, _, p => nomatch p
  | .dct _ _, _, _, p => nomatch p
  | .nd _ _, _, _, p => nomatch p
  | .ref _, _, _, p => nomatch p
  | .exc _, _, _, p => nomatch p
theorem nks_is : ∀ (ds : List D) (us : List Value), Trees h ds us → pures ds = true → NestedAll h (nks ds) us
  | [], us, t, _ => by cases (show us = [] from t); exact .nil
  | d :: ds, us, t, p => by
    obtain ⟨u, r, rfl, t1, t2⟩ := t
    obtain ⟨p1, p2⟩ := Bool.and_eq_true_iff.mp (show (d.pure && pures ds) = true from p)
    exact .cons (nk_is d u t1 p1) (nks_is ds r t2 p2)
end
mutual
theorem nk_depth : ∀ (d : D), d.pure = true → d.nk.depth = d.depth
  | .non, _ => rfl
  | .bl b, _ => rfl
  | .int i, _ => rfl
  | .str i, _ => rfl
  | .tup ds, p => by
    show NestedKey.depthAll (nks ds) + 1 = depths ds + 1
    rw [nks_depth ds p]
  | .lst _, p => nomatch p
  | .fz _, p => nomatch p
  | .dct _ _, p => nomatch p
  | .nd _ _, p => nomatch p
  | .ref _, p => nomatch p
  | .exc _, p => nomatch p
theorem nks_depth : ∀ (ds : List D), pures ds = true → NestedKey.depthAll (nks ds) = depths ds
  | [], _ => rfl
  | d :: ds, p => by
    obtain ⟨p1, p2⟩ := Bool.and_eq_true_iff.mp (show (d.pure && pures ds) = true from p)
    show max _ _ = max _ _
    rw [nk_depth d p1, nks_depth ds p2]
end
mutual
theorem nk_eqv : ∀ (x y : D), x.pure = true → y.pure = true → x.eqv y = NestedKey.beq x.nk y.nk
  | .non, y, _, p => by cases y <;> first | rfl | nomatch p
  | .bl b, y, _, p => by
    cases y with
    | bl c => cases b <;> cases c <;> rfl
    | int c => rfl
    | _ => first | rfl | nomatch p
  | .int i, y, _, p => by cases y <;> first | rfl | nomatch p
  | .str i, y, _, p => by cases y <;> first | rfl | nomatch p
  | .tup ds, y, q, p => by
    cases y with
    | tup es => exact nks_eqv ds es q p
    | _ => first | rfl | nomatch p
  | .lst _, _, p, _ => nomatch p
  | .fz _, _, p, _ => nomatch p
  | .dct _ _, _, p, _ => nomatch p
  | .nd _ _, _, p, _ => nomatch p
  | .ref _, _, p, _ => nomatch p
  | .exc _, _, p, _ => nomatch p
theorem nks_eqv : ∀ (xs ys : List D), pures xs = true → pures ys = true → eqvs xs ys = NestedKey.beqAll (nks xs) (nks ys)
  | [], [], _, _ => rfl
  | [], _ :: _, _, _ => rfl
  | _ :: _, [], _, _ => rfl
  | x :: xs, y :: ys, p, q => by
    obtain ⟨p1, p2⟩ := Bool.and_eq_true_iff.mp (show (x.pure && pures xs) = true from p)
    obtain ⟨q1, q2⟩ := Bool.and_eq_true_iff.mp (show (y.pure && pures ys) = true from q)
    show (x.eqv y && eqvs xs ys) = _
    rw [nk_eqv x y p1 q1, nks_eqv xs ys p2 q2]; rfl
end
theorem nk_dec {x y : D} (p : x.pure = true) (q : y.pure = true) : x.eqv y = decide (x.nk = y.nk) := by rw [nk_eqv x y p q, NestedKey.decide_eq]
theorem tkey {k : D} (h : tkeyOk k = true) : k.pure = true ∧ k.depth ≤ 8 ∧ ∃ ks, k = .tup ks := by
  cases k with
  | tup ks =>
    obtain ⟨h1, h2⟩ := Bool.and_eq_true_iff.mp (show (pures ks && decide (D.depth (.tup ks) ≤ 8)) = true from h)
    exact ⟨h1, of_decide_eq_true h2, ks, rfl⟩
  | _ => nomatch h
end

section
variable (P : Program) (w : World) (h : Heap)
mutual
/-- x stands at u, dicts too -/
def DTree : D → Value → Prop
  | .non, u => u = .none
  | .bl b, u => u = .bool b
  | .int i, u => ∃ t, u = .int i t
  | .str x, u => ∃ t, u = .str x t
  | .tup ds, u => ∃ a its, u = .ref a ∧ h.IsTuple a its ∧ DTrees ds its.toList
  | .dct ks vs, u => ∃ a kvs, u = .ref a ∧ (a == sysModules) = false ∧ h.DictOf (mixKind P w) a kvs ∧ kvs.map (fun p => keyD p.1) = ks ∧ DTrees vs (kvs.map (·.2))
  | .nd ks vs, u => ∃ a ys, u = .ref a ∧ (a == sysModules) = false ∧ h.DictOfH (nestedKind P w) a ys ∧ ys.map (·.1) = ks.map D.nk ∧ DTrees vs (ys.map (·.2.2))
  | _, _ => False
def DTrees : List D → List Value → Prop
  | [], us => us = []
  | d :: ds, us => ∃ u r, us = u :: r ∧ DTree d u ∧ DTrees ds r
end
end
section
variable {P : Program} {w : World} {h : Heap}
theorem DTrees.get : ∀ (ds : List D) (us : List Value) (j : Nat) (u : Value), DTrees P w h ds us → us[j]? = some u → ∃ d, ds[j]? = some d ∧ DTree P w h d u
  | [], us, j, u, t, e => by
    rw [show us = [] from t] at e; simp at e
  | d :: ds, us, 0, u, t, e => by
    obtain ⟨w, r, rfl, h1, h2⟩ := t
    simp at e; subst e; exact ⟨d, rfl, h1⟩
  | d :: ds, us, j + 1, u, t, e => by
    obtain ⟨w, r, rfl, h1, h2⟩ := t
    obtain ⟨x, e1, e2⟩ := DTrees.get ds r j u h2 (by simpa using e)
    exact ⟨x, by simpa using e1, e2⟩
theorem DTrees.length : ∀ (ds : List D) (us : List Value), DTrees P w h ds us → us.length = ds.length
  | [], _, e => by rw [show _ = [] from e]; rfl
  | d :: ds, _, e => by
    obtain ⟨u, r, rfl, _, q⟩ := e
    rw [List.length_cons, List.length_cons, DTrees.length ds r q]
mutual
theorem Tree.dt : ∀ (d : D) (u : Value), Tree h d u → d.pure = true → DTree P w h d u
  | .non, u, t, _ => t
  | .bl b, u, t, _ => t
  | .int i, u, t, _ => t
  | .str i, u, t, _ => t
  | .tup ds, u, t, p => by
    obtain ⟨a, its, rfl, q, ts⟩ := t
    exact ⟨a, its, rfl, q, Trees.dt ds _ ts p⟩
  | .lst _, _, _, p => nomatch p
  | .fz _, _, _, p => nomatch p
  | .dct _ _, _, _, p => nomatch p
  | .nd _ _, _, _, p => nomatch p
  | .ref _, _, _, p => nomatch p
  | .exc _, _, _, p => nomatch p
theorem Trees.dt : ∀ (ds : List D) (us : List Value), Trees h ds us → pures ds = true → DTrees P w h ds us
  | [], us, t, _ => t
  | d :: ds, us, t, p => by
    obtain ⟨u, r, rfl, t1, t2⟩ := t
    obtain ⟨p1, p2⟩ := Bool.and_eq_true_iff.mp (show (d.pure && pures ds) = true from p)
    exact ⟨u, r, rfl, Tree.dt d u t1 p1, Trees.dt ds r t2 p2⟩
end
theorem keyD_inj {a b : Key} (h : keyD a = keyD b) : a = b := by
  cases a <;> cases b <;> (unfold keyD at h; cases h) <;> rfl
theorem at_nodup {K : Type} [DecidableEq K] : ∀ {ka kb : List (K × Value)} {k : K} {v y : Value}, ka.map (·.1) = kb.map (·.1) → (ka.map (·.1)).Nodup → (k, v) ∈ ka → valueAt kb k = some y → ∃ i : Nat, ka[i]? = some (k, v) ∧ kb[i]? = some (k, y)
  | [], [], _, _, _, _, _, m, _ => nomatch m
  | [], _ :: _, _, _, _, e, _, _, _ => nomatch e
  | _ :: _, [], _, _, _, e, _, _, _ => nomatch e
  | a :: ka, b :: kb, k, v, y, e, nd, m, hv => by
    injection e with e1 e2
    obtain ⟨n1, n2⟩ := List.nodup_cons.mp nd
    rcases List.mem_cons.mp m with m | m
    · subst m
      refine ⟨0, rfl, ?_⟩
      have e1' : b.1 = k := e1.symm
      unfold valueAt at hv
      rw [List.find?_cons_of_pos (by simpa using e1')] at hv
      obtain ⟨b1, b2⟩ := b
      cases hv
      simp at e1'; rw [e1']; rfl
    · have hne : b.1 ≠ k := fun z => n1 (by
        have e1' : a.1 = b.1 := e1
        show a.1 ∈ _
        rw [show a.1 = k from e1'.trans z]
        exact List.mem_map.mpr ⟨_, m, rfl⟩)
      unfold valueAt at hv
      rw [List.find?_cons_of_neg (by simpa using hne)] at hv
      obtain ⟨i, h1, h2⟩ := at_nodup (ka := ka) (kb := kb) e2 n2 m hv
      exact ⟨i + 1, by simpa using h1, by simpa using h2⟩
theorem at_some {K : Type} [DecidableEq K] {ka kb : List (K × Value)} {p : K × Value} (e : ka.map (·.1) = kb.map (·.1)) (m : p ∈ ka) : (valueAt kb p.1).isSome = true := by
  have hm : p.1 ∈ kb.map (·.1) := by rw [← e]; exact List.mem_map.mpr ⟨p, m, rfl⟩
  obtain ⟨q, hq, e2⟩ := List.mem_map.mp hm
  unfold valueAt
  rw [Option.isSome_map, List.find?_isSome]
  exact ⟨q, hq, by simpa using e2⟩
end
section
variable {P : Program} {w : World} {s : Shared}
mutual
theorem dtree_eq : ∀ (x : D) (A : Around) (u v : Value), DTree P w s.heap x u → DTree P w s.heap x v → A.units + x.depth + 20 < cLine → EqIn P w A s u v true
  | .non, A, u, v, h1, h2, _ => by
    cases (show u = Value.none from h1); cases (show v = Value.none from h2); exact (EqAt.same _).inModel P w
  | .bl b, A, u, v, h1, h2, _ => by
    cases (show u = Value.bool b from h1); cases (show v = Value.bool b from h2); exact (EqAt.same _).inModel P w
  | .int i, A, u, v, h1, h2, _ => by
    have := eqAt_tree (.int i) (.int i) A s u v h1 h2 (by show A.units + 0 < cLine; omega)
    rw [show (D.int i).eqv (.int i) = true by simp [D.eqv]] at this
    exact this.inModel P w
  | .str i, A, u, v, h1, h2, _ => by
    have := eqAt_tree (.str i) (.str i) A s u v h1 h2 (by show A.units + 0 < cLine; omega)
    rw [show (D.str i).eqv (.str i) = true by simp [D.eqv]] at this
    exact this.inModel P w
  | .tup ds, A, u, v, h1, h2, hu => by
    obtain ⟨a, its, rfl, q1, t1⟩ := h1
    obtain ⟨b, jts, rfl, q2, t2⟩ := h2
    have hu' : A.units + (depths ds + 1) + 20 < cLine := hu
    by_cases hab : a = b
    · rw [hab]; exact (EqAt.same _).inModel P w
    · have hl1 := DTrees.length _ _ t1
      have hl2 := DTrees.length _ _ t2
      simp only [Array.length_toList] at hl1 hl2
      refine EqIn.of_refs hab fun E Q hq => rcIn_tuples (e := fun _ => true) q1 q2 (by omega) (fun j j1 j2 => ?_) ?_
      · have := dtrees_eq ds A.in1 its.toList jts.toList t1 t2 (by show A.units + 1 + depths ds + 20 < cLine; omega) j (by simpa using j1) (by simpa using j2)
        simpa using this
      · have e : ((List.range (min its.size jts.size)).all (fun _ => true) && its.size == jts.size) = true := by simp [hl1, hl2]
        rw [e]; exact hq
  | .dct ks ds, A, u, v, h1, h2, hu => by
    obtain ⟨a, ka, rfl, sa, q1, k1, t1⟩ := h1
    obtain ⟨b, kb, rfl, sb, q2, k2, t2⟩ := h2
    have hu' : A.units + (max (depths ks) (depths ds) + 1) + 20 < cLine := hu
    by_cases hab : a = b
    · rw [hab]; exact (EqAt.same _).inModel P w
    · have hk : ka.map (·.1) = kb.map (·.1) := by
        have e : (ka.map (·.1)).map keyD = (kb.map (·.1)).map keyD := by
          rw [List.map_map, List.map_map]; exact k1.trans k2.symm
        exact (List.map_inj_right fun _ _ => keyD_inj).mp e
      have hl : ka.length = kb.length := by simpa using congrArg List.length hk
      have nd : (ka.map (·.1)).Nodup := by obtain ⟨_, _, _, _, _, _, _, _, n⟩ := q1; exact n
      refine EqIn.of_refs hab fun E Q hq => keq_eqIn sa sb q1 q2 (by omega) (fun _ => KeqHitsIn.of (e := fun _ => true) ka fun k v y m hv => ?_) ?_
      · obtain ⟨i, i1, i2⟩ := at_nodup hk nd m hv
        have j1 : (ka.map (·.2))[i]? = some v := by rw [List.getElem?_map, i1]; rfl
        have j2 : (kb.map (·.2))[i]? = some y := by rw [List.getElem?_map, i2]; rfl
        obtain ⟨l1, e1⟩ := List.getElem?_eq_some_iff.mp j1
        obtain ⟨l2, e2⟩ := List.getElem?_eq_some_iff.mp j2
        have := dtrees_eq ds A.in1 _ _ t1 t2 (by show A.units + 1 + depths ds + 20 < cLine; omega) i l1 l2
        rw [e1, e2] at this
        exact this
      · have e : (ka.length == kb.length && ka.all fun p => (valueAt kb p.1).isSome && (fun _ => true) p.1) = true := by
          rw [hl]; simp only [beq_self_eq_true, Bool.true_and, List.all_eq_true, Bool.and_true]
          exact fun p m => at_some hk m
        rw [e]; exact hq
  | .nd ks ds, A, u, v, h1, h2, hu => by
    obtain ⟨a, ka, rfl, sa, q1, k1, t1⟩ := h1
    obtain ⟨b, kb, rfl, sb, q2, k2, t2⟩ := h2
    have hu' : A.units + (max (depths ks) (depths ds) + 1) + 20 < cLine := hu
    by_cases hab : a = b
    · rw [hab]; exact (EqAt.same _).inModel P w
    · refine EqIn.of_refs hab fun E Q hq => rc_nd (knd := nestedKind P w) sa sb q1 q2 (by omega) (by show A.units + 1 + 8 < cLine; omega) (k1.trans k2.symm) (fun i x y i1 i2 => ?_) hq
      have j1 : (ka.map (·.2.2))[i]? = some x.2.2 := by rw [List.getElem?_map, i1]; rfl
      have j2 : (kb.map (·.2.2))[i]? = some y.2.2 := by rw [List.getElem?_map, i2]; rfl
      obtain ⟨l1, e1⟩ := List.getElem?_eq_some_iff.mp j1
      obtain ⟨l2, e2⟩ := List.getElem?_eq_some_iff.mp j2
      have := dtrees_eq ds A.in1 _ _ t1 t2 (by show A.units + 1 + depths ds + 20 < cLine; omega) i l1 l2
      rw [e1, e2] at this
      exact this
  | .lst _, _, _, _, h, _, _ => h.elim
  | .fz _, _, _, _, h, _, _ => h.elim
  | .ref _, _, _, _, h, _, _ => h.elim
  | .exc _, _, _, _, h, _, _ => h.elim
theorem dtrees_eq : ∀ (xs : List D) (A : Around) (us vs : List Value), DTrees P w s.heap xs us → DTrees P w s.heap xs vs → A.units + depths xs + 20 < cLine → ∀ (j : Nat) (h1 : j < us.length) (h2 : j < vs.length), EqIn P w A s us[j] vs[j] true
  | [], _, us, _, h, _, _, j, h1, _ => by cases (show us = [] from h); exact absurd h1 (Nat.not_lt_zero _)
  | x :: xs, A, _, _, h, h', hu, j, h1, h2 => by
    obtain ⟨u, r, rfl, t1, t2⟩ := h
    obtain ⟨u', r', rfl, t1', t2'⟩ := h'
    have hu' : A.units + max x.depth (depths xs) + 20 < cLine := hu
    cases j with
    | zero => exact dtree_eq x A u u' t1 t1' (by omega)
    | succ j => exact dtrees_eq xs A r r' t2 t2' (by omega) j (by simpa using h1) (by simpa using h2)
end
theorem dtree_rc : ∀ (x : D) (A : Around) (u v : Value), DTree P w s.heap x u → DTree P w s.heap x v → A.units + x.depth + 20 < cLine →
    ∀ (E : Value → Shared → Prop) (Q : Value → Shared → Prop), Q (.bool true) s → wpAny (model P w) A (compareOp .Eq u v) Q E s := fun x A u v h1 h2 hu E Q hq => by
  have leaf : Tree s.heap x u → Tree s.heap x v → x.eqv x = true → wpAny (model P w) A (compareOp .Eq u v) Q E s := fun t1 t2 e =>
    rcAt_tree x x A s u v t1 t2 (by omega) _ _ _ _ (by rw [e]; exact hq)
  cases x with
  | non => exact leaf h1 h2 rfl
  | bl b => exact leaf h1 h2 (by simp [D.eqv])
  | int i => exact leaf h1 h2 (by simp [D.eqv])
  | str i => exact leaf h1 h2 (by simp [D.eqv])
  | tup ds =>
    obtain ⟨a, its, rfl, q1, t1⟩ := h1
    obtain ⟨b, jts, rfl, q2, t2⟩ := h2
    have hu' : A.units + (depths ds + 1) + 20 < cLine := hu
    have hl1 := DTrees.length _ _ t1
    have hl2 := DTrees.length _ _ t2
    simp only [Array.length_toList] at hl1 hl2
    refine rcIn_tuples (e := fun _ => true) q1 q2 (by omega) (fun j j1 j2 => ?_) ?_
    · have := dtrees_eq ds A.in1 its.toList jts.toList t1 t2 (by show A.units + 1 + depths ds + 20 < cLine; omega) j (by simpa using j1) (by simpa using j2)
      simpa using this
    · have e : ((List.range (min its.size jts.size)).all (fun _ => true) && its.size == jts.size) = true := by simp [hl1, hl2]
      rw [e]; exact hq
  | dct ks ds =>
    obtain ⟨a, ka, rfl, sa, q1, k1, t1⟩ := h1
    obtain ⟨b, kb, rfl, sb, q2, k2, t2⟩ := h2
    have hu' : A.units + (max (depths ks) (depths ds) + 1) + 20 < cLine := hu
    have hk : ka.map (·.1) = kb.map (·.1) := by
      have e : (ka.map (·.1)).map keyD = (kb.map (·.1)).map keyD := by
        rw [List.map_map, List.map_map]; exact k1.trans k2.symm
      exact (List.map_inj_right fun _ _ => keyD_inj).mp e
    have hl : ka.length = kb.length := by simpa using congrArg List.length hk
    have nd : (ka.map (·.1)).Nodup := by obtain ⟨_, _, _, _, _, _, _, _, n⟩ := q1; exact n
    refine keq_eqIn sa sb q1 q2 (by omega) (fun _ => KeqHitsIn.of (e := fun _ => true) ka fun k v y m hv => ?_) ?_
    · obtain ⟨i, i1, i2⟩ := at_nodup hk nd m hv
      have j1 : (ka.map (·.2))[i]? = some v := by rw [List.getElem?_map, i1]; rfl
      have j2 : (kb.map (·.2))[i]? = some y := by rw [List.getElem?_map, i2]; rfl
      obtain ⟨l1, e1⟩ := List.getElem?_eq_some_iff.mp j1
      obtain ⟨l2, e2⟩ := List.getElem?_eq_some_iff.mp j2
      have := dtrees_eq ds A.in1 _ _ t1 t2 (by show A.units + 1 + depths ds + 20 < cLine; omega) i l1 l2
      rw [e1, e2] at this
      exact this
    · have e : (ka.length == kb.length && ka.all fun p => (valueAt kb p.1).isSome && (fun _ => true) p.1) = true := by
        rw [hl]; simp only [beq_self_eq_true, Bool.true_and, List.all_eq_true, Bool.and_true]
        exact fun p m => at_some hk m
      rw [e]; exact hq
  | nd ks ds =>
    obtain ⟨a, ka, rfl, sa, q1, k1, t1⟩ := h1
    obtain ⟨b, kb, rfl, sb, q2, k2, t2⟩ := h2
    have hu' : A.units + (max (depths ks) (depths ds) + 1) + 20 < cLine := hu
    refine rc_nd (knd := nestedKind P w) sa sb q1 q2 (by omega) (by show A.units + 1 + 8 < cLine; omega) (k1.trans k2.symm) (fun i x y i1 i2 => ?_) hq
    have j1 : (ka.map (·.2.2))[i]? = some x.2.2 := by rw [List.getElem?_map, i1]; rfl
    have j2 : (kb.map (·.2.2))[i]? = some y.2.2 := by rw [List.getElem?_map, i2]; rfl
    obtain ⟨l1, e1⟩ := List.getElem?_eq_some_iff.mp j1
    obtain ⟨l2, e2⟩ := List.getElem?_eq_some_iff.mp j2
    have := dtrees_eq ds A.in1 _ _ t1 t2 (by show A.units + 1 + depths ds + 20 < cLine; omega) i l1 l2
    rw [e1, e2] at this
    exact this
  | _ => exact h1.elim
end
section
variable {α β γ : Type}
theorem pr_map_eq {F : α → β → Prop} {f : α → γ} {g : β → γ} : ∀ {l1 : List α} {l2 : List β}, Paired F l1 l2 → (∀ a b, F a b → f a = g b) → l1.map f = l2.map g
  | _, _, .nil, _ => rfl
  | _, _, .cons h t, e => by rw [List.map_cons, List.map_cons, e _ _ h, pr_map_eq t e]
theorem pr_vals {F : α → β → Prop} {f : α → V} {g : β → Value} : ∀ {l1 : List α} {l2 : List β}, Paired F l1 l2 → (∀ a b, F a b → RelV (f a) (g b)) → Vals (l1.map f) (l2.map g)
  | _, _, .nil, _ => .nil
  | _, _, .cons h t, e => .cons (e _ _ h) (pr_vals t e)
theorem vals_map {f : α → V} {g : α → Value} (e : ∀ a, RelV (f a) (g a)) : ∀ l : List α, Vals (l.map f) (l.map g)
  | [] => .nil
  | a :: l => .cons (e a) (vals_map e l)
theorem pures_of' : ∀ {ks : List D}, (∀ k ∈ ks, k.pure = true) → pures ks = true
  | [], _ => rfl
  | k :: ks, h => by
    show (k.pure && pures ks) = true
    rw [h k (by simp), pures_of' fun d m => h d (by simp [m])]; rfl
end
end Ev
end
section
set_option Elab.async false
set_option linter.all false
set_option maxRecDepth 100000
namespace Ev
open PySem PySem.Spec PyProof.Rows L2 PySem.SeqAt
section
variable {X : Cx} {C : Nat → Addr} {pins : List (Addr × Obj)} {σ : Slots} {H : Hp} {s : Shared} {μ : List Addr} {S : Sto}
mutual
theorem tree_pure (I : Inv X pins σ H s) : ∀ (d : D) (v : V) (fp : List Addr) (u : Value), Rep (tOf X C) H μ d v fp → RelV v u → d.pure = true → Tree s.heap d u
  | .non, _, _, u, h, r, _ => by obtain ⟨rfl, _⟩ := h; exact r
  | .bl b, _, _, u, h, r, _ => by obtain ⟨rfl, _⟩ := h; exact r
  | .int b, _, _, u, h, r, _ => by obtain ⟨rfl, _⟩ := h; exact r
  | .str b, _, _, u, h, r, _ => by obtain ⟨rfl, _⟩ := h; exact r
  | .tup ds, _, fp, u, h, r, p => by
    obtain ⟨a, vs, rfl, q, rs⟩ := h
    obtain ⟨its, r', it, _⟩ := I.tuple q
    exact ⟨a, its.toArray, r, it, trees_pure I ds vs fp its rs r' p⟩
  | .lst _, _, _, _, _, _, p => nomatch p
  | .fz _, _, _, _, _, _, p => nomatch p
  | .dct _ _, _, _, _, _, _, p => nomatch p
  | .nd _ _, _, _, _, _, _, p => nomatch p
  | .ref _, _, _, _, _, _, p => nomatch p
  | .exc _, _, _, _, _, _, p => nomatch p
theorem trees_pure (I : Inv X pins σ H s) : ∀ (ds : List D) (vs : List V) (fp : List Addr) (us : List Value), Reps (tOf X C) H μ ds vs fp → Vals vs us → pures ds = true → Trees s.heap ds us
  | [], vs, _, us, h, r, _ => by
    obtain ⟨rfl, _⟩ := h
    cases r; rfl
  | d :: ds, _, _, us, h, r, p => by
    obtain ⟨v, w, f1, f2, rfl, h1, h2, rfl⟩ := h
    obtain ⟨p1, p2⟩ := Bool.and_eq_true_iff.mp (show (d.pure && pures ds) = true from p)
    cases r with
    | cons r1 r2 => exact ⟨_, _, rfl, tree_pure I d v f1 _ h1 r1 p1, trees_pure I ds w f2 _ h2 r2 p2⟩
end
theorem mapM_cons' {α β : Type} {f : α → Option β} {a : α} {as : List α} {bs : List β} (h : (a :: as).mapM f = some bs) : ∃ b r, bs = b :: r ∧ f a = some b ∧ as.mapM f = some r := by
  rw [List.mapM_cons] at h
  cases e : f a with
  | none => rw [e] at h; simp at h
  | some b =>
    cases e2 : as.mapM f with
    | none => rw [e, e2] at h; simp at h
    | some r =>
      rw [e, e2] at h
      have h' : some (b :: r) = some bs := h
      exact ⟨b, r, (Option.some.inj h').symm, rfl, rfl⟩
theorem trees_map {f : D → Option D} (hf : ∀ (d : D) (v : V) (fp : List Addr) (u : Value) (x : D), Rep (tOf X C) H μ d v fp → RelV v u → f d = some x → Tree s.heap x u) :
    ∀ (ds : List D) (vs : List V) (fp : List Addr) (us : List Value) (xs : List D), Reps (tOf X C) H μ ds vs fp → Vals vs us → ds.mapM f = some xs → Trees s.heap xs us
  | [], vs, _, us, xs, h, r, e => by
    obtain ⟨rfl, _⟩ := h
    cases r
    have : some [] = some xs := e
    cases this; rfl
  | d :: ds, _, _, us, xs, h, r, e => by
    obtain ⟨v, w, f1, f2, rfl, h1, h2, rfl⟩ := h
    obtain ⟨b, q, rfl, e1, e2⟩ := mapM_cons' e
    cases r with
    | cons r1 r2 => exact ⟨_, _, rfl, hf d v f1 _ b h1 r1 e1, trees_map hf ds w f2 _ q h2 r2 e2⟩
theorem lst_at (I : Inv X pins σ H s) {a : Addr} {vs : List V} (h : SqL X.K H a vs) : ∃ its : List Value, Vals vs its ∧ s.heap.IsList a its.toArray ∧ vs.length ≤ sizeLine := by
  obtain ⟨its, r, pl, z⟩ := I.list h
  exact ⟨its, r, pl.isList, z⟩
theorem tree_res (I : Inv X pins σ H s) (ok : StOk (tOf X C) H μ S) : ∀ (k : Nat) (d : D) (v : V) (fp : List Addr) (u : Value) (x : D), Rep (tOf X C) H μ d v fp → RelV v u → res S k d = some x → Tree s.heap x u
  | 0, _, _, _, _, _, _, _, e => nomatch e
  | k + 1, d, v, fp, u, x, h, r, e => by
    unfold res at e
    split at e
    · rename_i p
      cases e
      exact tree_pure I d v fp u h r p
    · split at e
      · rename_i ds _
        obtain ⟨xs, e1, rfl⟩ := Option.map_eq_some_iff.mp e
        obtain ⟨a, vs, rfl, q, rs⟩ := h
        obtain ⟨its, r', it, _⟩ := I.tuple q
        exact ⟨a, its.toArray, r, it, trees_map (tree_res I ok k) ds vs fp its xs rs r' e1⟩
      · rename_i ds _
        obtain ⟨xs, e1, rfl⟩ := Option.map_eq_some_iff.mp e
        obtain ⟨a, vs, fp', rfl, q, rs, _⟩ := h
        obtain ⟨its, r', it, _⟩ := lst_at I (SqL.of q)
        exact ⟨a, its.toArray, r, it, trees_map (tree_res I ok k) ds vs fp' its xs rs r' e1⟩
      · rename_i ds _
        obtain ⟨xs, e1, rfl⟩ := Option.map_eq_some_iff.mp e
        obtain ⟨a, vs, rfl, q, rs, _⟩ := h
        obtain ⟨its, r', it, _⟩ := lst_at I q.sq
        exact ⟨a, its.toArray, r, it, trees_map (tree_res I ok k) ds vs fp its xs rs r' e1⟩
      · rename_i n _
        split at e
        · rename_i ds hS
          obtain ⟨xs, e1, rfl⟩ := Option.map_eq_some_iff.mp e
          obtain ⟨a, rfl, hm, _⟩ := h
          obtain ⟨vs, q, rs⟩ := ok.at_ n _ a hS hm
          obtain ⟨its, r', it, _⟩ := lst_at I (SqL.of q)
          exact ⟨a, its.toArray, r, it, trees_map (tree_res I ok k) ds vs [] its xs rs r' e1⟩
        · cases e
      · cases e
theorem trees_res (I : Inv X pins σ H s) (ok : StOk (tOf X C) H μ S) (k : Nat) (ds : List D) (vs : List V) (fp : List Addr) (us : List Value) (xs : List D) (h : Reps (tOf X C) H μ ds vs fp) (r : Vals vs us) (e : resL S k ds = some xs) : Trees s.heap xs us := by
  unfold resL at e
  split at e
  · rename_i p
    cases e
    exact trees_pure I ds vs fp us h r p
  · exact trees_map (tree_res I ok k) ds vs fp us xs h r e
theorem Trees.get {h : Heap} : ∀ (ds : List D) (us : List Value) (j : Nat) (u : Value), Trees h ds us → us[j]? = some u → ∃ d, ds[j]? = some d ∧ Tree h d u
  | [], us, j, u, t, e => by
    rw [show us = [] from t] at e; simp at e
  | d :: ds, us, 0, u, t, e => by
    obtain ⟨w, r, rfl, h1, h2⟩ := t
    simp at e; subst e; exact ⟨d, rfl, h1⟩
  | d :: ds, us, j + 1, u, t, e => by
    obtain ⟨w, r, rfl, h1, h2⟩ := t
    obtain ⟨x, e1, e2⟩ := Trees.get ds r j u h2 (by simpa using e)
    exact ⟨x, by simpa using e1, e2⟩
open Classical in
/-- the items' answers as a function of the values -/
noncomputable def ansOf (h : Heap) (y : D) (u : Value) : Bool := if hx : ∃ x, Tree h x u then (Classical.choose hx).eqv y else false
theorem ansOf_eq {h : Heap} {y x : D} {u : Value} (t : Tree h x u) : ansOf h y u = x.eqv y := by
  unfold ansOf
  have hx : ∃ x, Tree h x u := ⟨x, t⟩
  rw [dif_pos hx, Tree.unique _ _ u (Classical.choose_spec hx) t]
theorem ans_any {h : Heap} {y : D} : ∀ (xs : List D) (us : List Value), Trees h xs us → us.any (ansOf h y) = xs.any fun z => z.eqv y
  | [], us, t => by rw [show us = [] from t]; rfl
  | x :: xs, us, t => by
    obtain ⟨w, r, rfl, h1, h2⟩ := t
    rw [List.any_cons, List.any_cons, ansOf_eq h1, ans_any xs r h2]
theorem depths_get : ∀ (xs : List D) (j : Nat) (x : D), xs[j]? = some x → x.depth ≤ depths xs
  | [], _, _, e => by simp at e
  | x :: xs, 0, y, e => by simp at e; subst e; exact Nat.le_max_left _ _
  | x :: xs, j + 1, y, e => Nat.le_trans (depths_get xs j y (by simpa using e)) (Nat.le_max_right _ _)
theorem nd_heap (I : Inv X pins σ H s) {a : Addr} {ks : List D} {xs : List (NestedKey × Addr × V)} (q : NdAt X.w H a ks xs) (rk : Reps (tOf X C) H μ ks (xs.map fun x => .ref x.2.1) []) :
    (a == sysModules) = false ∧ xs.length ≤ sizeLine ∧ ∃ ys : List (NestedKey × Addr × Value), Paired (fun (p : NestedKey × Addr × V) (q : NestedKey × Addr × Value) => p.1 = q.1 ∧ p.2.1 = q.2.1 ∧ RelV p.2.2 q.2.2) xs ys ∧ s.heap.DictOfH (nestedKind X.prog X.w) a ys ∧ ys.map (·.1) = ks.map D.nk := by
  obtain ⟨⟨hs, hl, ys, pr, o, es, ep, h1, h2, h3, h4, h5⟩, _⟩ := I.hok a _ q.1
  have e1 : xs.map (·.1) = ys.map (·.1) := pr_map_eq pr fun _ _ z => z.1
  have e2 : xs.map (·.2.1) = ys.map (·.2.1) := pr_map_eq pr fun _ _ z => z.2.1
  refine ⟨hs, hl, ys, pr, ⟨o, es, ep, h1, h2, h3, h4, fun y m => ?_, h5⟩, e1.symm.trans q.2.1⟩
  obtain ⟨j, hj, ej⟩ := List.mem_iff_getElem.mp m
  have hx : j < xs.length := by have := congrArg List.length e1; simp at this; omega
  have hkl : ks.length = xs.length := by have := congrArg List.length q.2.1; simp at this; omega
  have hk : j < ks.length := by omega
  have hvals : Vals (xs.map fun x => V.ref x.2.1) (xs.map fun x => Value.ref x.2.1) := vals_map (f := fun x : NestedKey × Addr × V => V.ref x.2.1) (g := fun x : NestedKey × Addr × V => Value.ref x.2.1) (fun x => (rfl : Value.ref x.2.1 = Value.ref x.2.1)) xs
  have ts := trees_pure I ks _ [] _ rk hvals (pures_of' fun k m => (tkey (q.2.2 k m)).1)
  obtain ⟨d, hd, td⟩ := Trees.get ks _ j (.ref (xs[j]).2.1) ts (by rw [List.getElem?_map, List.getElem?_eq_getElem hx]; rfl)
  have hd' : d ∈ ks := List.mem_of_getElem? hd
  obtain ⟨p1, p2, _⟩ := tkey (q.2.2 d hd')
  have ea : (xs[j]).2.1 = y.2.1 := by
    have := congrArg (·[j]?) e2
    simp only [List.getElem?_map, List.getElem?_eq_getElem hx, List.getElem?_eq_getElem hj, Option.map_some, Option.some.injEq] at this
    rw [this, ej]
  have ek : y.1 = d.nk := by
    have := congrArg (·[j]?) (e1.symm.trans q.2.1)
    simp only [List.getElem?_map, List.getElem?_eq_getElem hj, hd, Option.map_some, Option.some.injEq] at this
    rw [← this, ej]
  rw [ea] at td
  exact ⟨by rw [ek]; exact nk_is d _ td p1, by rw [ek, nk_depth d p1]; exact p2⟩
theorem dtrees_map {f : D → Option D} (hf : ∀ (d : D) (v : V) (fp : List Addr) (u : Value) (x : D), Rep (tOf X C) H μ d v fp → RelV v u → f d = some x → DTree X.prog X.w s.heap x u) :
    ∀ (ds : List D) (vs : List V) (fp : List Addr) (us : List Value) (xs : List D), Reps (tOf X C) H μ ds vs fp → Vals vs us → ds.mapM f = some xs → DTrees X.prog X.w s.heap xs us
  | [], vs, _, us, xs, h, r, e => by
    obtain ⟨rfl, _⟩ := h
    cases r
    have : some [] = some xs := e
    cases this; rfl
  | d :: ds, _, _, us, xs, h, r, e => by
    obtain ⟨v, w, f1, f2, rfl, h1, h2, rfl⟩ := h
    obtain ⟨b, q, rfl, e1, e2⟩ := mapM_cons' e
    cases r with
    | cons r1 r2 => exact ⟨_, _, rfl, hf d v f1 _ b h1 r1 e1, dtrees_map hf ds w f2 _ q h2 r2 e2⟩
theorem dk_heap (I : Inv X pins σ H s) {a : Addr} {ks : List D} {us : List V} (q : DictAt H a ks us) : (a == sysModules) = false ∧ ∃ vs, s.heap.DictOf (mixKind X.prog X.w) a vs ∧ vs.map (fun p => keyD p.1) = ks ∧ Vals us (vs.map (·.2)) := by
  obtain ⟨kvs, h1, rfl, rfl, _⟩ := q
  obtain ⟨_, hs, vs, rel, dd⟩ := dk_of I.hok h1
  refine ⟨hs, vs, dd, ?_, pr_vals rel fun _ _ z => z.2⟩
  have e : kvs.map (·.1) = vs.map (·.1) := pr_map_eq rel fun _ _ z => z.1
  have e2 := congrArg (List.map keyD) e
  rw [List.map_map, List.map_map] at e2
  exact e2.symm
theorem dtree_res (I : Inv X pins σ H s) (ok : StOk (tOf X C) H μ S) : ∀ (k : Nat) (d : D) (v : V) (fp : List Addr) (u : Value) (x : D), Rep (tOf X C) H μ d v fp → RelV v u → resD S k d = some x → DTree X.prog X.w s.heap x u
  | 0, _, _, _, _, _, _, _, e => nomatch e
  | k + 1, d, v, fp, u, x, h, r, e => by
    have dcase : ∀ (a : Addr) (ks ds xs : List D) (us : List V) (f' : List Addr), DictAt H a ks us → Reps (tOf X C) H μ ds us f' → ds.mapM (resD S k) = some xs → DTree X.prog X.w s.heap (.dct ks xs) (.ref a) := fun a ks ds xs us f' q rs e1 => by
      obtain ⟨hs, vs, dd, hk, hv⟩ := dk_heap I q
      exact ⟨a, vs, rfl, hs, dd, hk, dtrees_map (dtree_res I ok k) ds us f' _ xs rs hv e1⟩
    have ncase : ∀ (a : Addr) (ks ds xs : List D) (zs : List (NestedKey × Addr × V)) (f' : List Addr), NdAt X.w H a ks zs → Reps (tOf X C) H μ ks (zs.map fun x => .ref x.2.1) [] → Reps (tOf X C) H μ ds (zs.map (·.2.2)) f' → ds.mapM (resD S k) = some xs → DTree X.prog X.w s.heap (.nd ks xs) (.ref a) := fun a ks ds xs zs f' q rk rs e1 => by
      obtain ⟨hs, _, ys, pr, dd, hk⟩ := nd_heap I q rk
      exact ⟨a, ys, rfl, hs, dd, hk, dtrees_map (dtree_res I ok k) ds _ f' _ xs rs (pr_vals pr fun _ _ z => z.2.2) e1⟩
    unfold resD at e
    split at e
    · rename_i p
      cases e
      exact Tree.dt d u (tree_pure I d v fp u h r p) p
    · split at e
      · rename_i ds _
        obtain ⟨xs, e1, rfl⟩ := Option.map_eq_some_iff.mp e
        obtain ⟨a, vs, rfl, q, rs⟩ := h
        obtain ⟨its, r', it, _⟩ := I.tuple q
        exact ⟨a, its.toArray, r, it, dtrees_map (dtree_res I ok k) ds vs fp its xs rs r' e1⟩
      · rename_i ks ds _
        obtain ⟨xs, e1, rfl⟩ := Option.map_eq_some_iff.mp e
        obtain ⟨a, us, fp', rfl, q, rs, _⟩ := h
        cases r
        exact dcase a ks ds xs us fp' q rs e1
      · rename_i ks ds _
        obtain ⟨xs, e1, rfl⟩ := Option.map_eq_some_iff.mp e
        obtain ⟨a, zs, fp', rfl, q, rk, rs, _⟩ := h
        cases r
        exact ncase a ks ds xs zs fp' q rk rs e1
      · rename_i n _
        split at e
        · rename_i ks ds hS
          obtain ⟨xs, e1, rfl⟩ := Option.map_eq_some_iff.mp e
          obtain ⟨a, rfl, hm, _⟩ := h
          obtain ⟨us, q, rs⟩ := ok.at_ n _ a hS hm
          cases r
          exact dcase a ks ds xs us [] q rs e1
        · rename_i ks ds hS
          obtain ⟨xs, e1, rfl⟩ := Option.map_eq_some_iff.mp e
          obtain ⟨a, rfl, hm, _⟩ := h
          obtain ⟨zs, q, rk, rs⟩ := ok.at_ n _ a hS hm
          cases r
          exact ncase a ks ds xs zs [] q rk rs e1
        · cases e
      · cases e
end
def cOf : Cmp → CmpOp
  | .eq => .Eq
  | .ne => .NotEq
  | .lt => .Lt
  | .le => .LtE
  | .gt => .Gt
  | .ge => .GtE
  | .in_ => .In
  | .notin => .NotIn
def rCmp (T : Pgm) (o : Cmp) : R2 := fun x y H Q => ∃ d e S μ f1 f2 b, In2 T H μ S d e x y f1 f2 ∧ cmpE S o d e = some b ∧ Q (.bl b) H
theorem keyV {T : Pgm} {H : Hp} {μ : List Addr} {d : D} {v : V} {fp : List Addr} (r : Rep T H μ d v fp) (h : keyOk d = true) : ∃ k : Key, d = keyD k ∧ v = kV k := by
  cases d with
  | int i => exact ⟨.inl i, rfl, r.1⟩
  | str x => exact ⟨.inr x, rfl, r.1⟩
  | _ => cases h
theorem keyD_eqv (a b : Key) : (keyD a).eqv (keyD b) = decide (a = b) := by
  cases a <;> cases b <;> simp [keyD, D.eqv]
theorem find_key (k : Key) : ∀ kvs : List (Key × V), find (kvs.map fun p => keyD p.1) (keyD k) = kvs.findIdx? fun p => decide (p.1 = k)
  | [] => rfl
  | p :: r => by
    have ih := find_key k r
    unfold find at ih ⊢
    rw [List.map_cons, List.findIdx?_cons, List.findIdx?_cons, keyD_eqv, ih]
theorem findIdx_val (k : Key) : ∀ kvs : List (Key × V), (kvs.findIdx? fun p => decide (p.1 = k)).isSome = (valV kvs k).isSome
  | [] => rfl
  | p :: r => by
    rw [List.findIdx?_cons]
    by_cases e : p.1 = k
    · rw [valV_pos e]; simp [e]
    · rw [valV_neg e]; simp [e, findIdx_val k r]
theorem dict_at {T : Pgm} {H : Hp} {μ : List Addr} {S : Sto} {d : D} {v : V} {fp : List Addr} {ks vs : List D} (ok : StOk T H μ S) (r : Rep T H μ d v fp) (e : dictOf S d = some (ks, vs)) :
    ∃ a us f1, v = .ref a ∧ DictAt H a ks us ∧ Reps T H μ vs us f1 ∧ f1.Sublist fp := by
  unfold dictOf at e
  split at e
  · cases e
    obtain ⟨a, us, f1, rfl, q, r, rfl⟩ := r
    exact ⟨a, us, f1, rfl, q, r, List.sublist_append_left _ _⟩
  · rename_i n
    split at e
    · rename_i ks' vs' hS
      cases e
      obtain ⟨a, rfl, hm, rfl⟩ := r
      obtain ⟨us, q, r⟩ := ok.at_ n _ a hS hm
      exact ⟨a, us, [], rfl, q, r, List.Sublist.refl _⟩
    · cases e
  · cases e
theorem seq_at {T : Pgm} {H : Hp} {μ : List Addr} {S : Sto} {d : D} {v : V} {fp : List Addr} {ds : List D} (ok : StOk T H μ S) (r : Rep T H μ d v fp) (e : seqOf S d = some ds) :
    ∃ a vs f1, v = .ref a ∧ (SqL T.K H a vs ∨ SqT T.K H a vs) ∧ Reps T H μ ds vs f1 ∧ f1.Sublist fp := by
  unfold seqOf at e
  split at e
  · cases e
    obtain ⟨a, vs, rfl, q, r⟩ := r
    exact ⟨a, vs, fp, rfl, .inr q, r, List.Sublist.refl _⟩
  · unfold listOf at e
    split at e
    · cases e
      obtain ⟨a, vs, f1, rfl, q, r, rfl⟩ := r
      exact ⟨a, vs, f1, rfl, .inl (SqL.of q), r, List.sublist_append_left _ _⟩
    · cases e
      obtain ⟨a, vs, rfl, q, r, _⟩ := r
      exact ⟨a, vs, fp, rfl, .inl q.sq, r, List.Sublist.refl _⟩
    · rename_i n _
      split at e
      · rename_i ds' hS
        cases e
        obtain ⟨a, rfl, hm, rfl⟩ := r
        obtain ⟨vs, q, r⟩ := ok.at_ n _ a hS hm
        exact ⟨a, vs, [], rfl, .inl (SqL.of q), r, List.Sublist.refl _⟩
      · cases e
    · cases e
section
variable {X : Cx} {C : Nat → Addr}
theorem in_any (neg : Bool) (hu : X.A.units + 200 < cLine) {pins : List (Addr × Obj)} {s : Shared} {σ : Slots} {H : Hp} {x y : V} {v u : Value} {Q : VK} {d e : D} {S : Sto} {μ : List Addr} {f1 f2 : List Addr} {b : Bool}
    (I : Inv X pins σ H s) (rx : RelV x v) (ry : RelV y u) (i : In2 (tOf X C) H μ S d e x y f1 f2) (h : inE S d e = some b) (q : Q (.bl (if neg then !b else b)) H) :
    wpAny (model X.prog X.w) X.A (compareOp (if neg then .NotIn else .In) v u) (EP X pins σ Q) X.xe s := by
  unfold inE at h
  split at h
  · rename_i z
    split at h
    · rename_i w
      cases h
      obtain ⟨rfl, _⟩ := i.r1; obtain ⟨rfl, _⟩ := i.r2
      cases neg with
      | false => exact op_in_str pins s σ H _ _ v u Q I rx ry ⟨_, _, rfl, rfl, q⟩
      | true => exact L2.op_notIn_str pins s σ H _ _ v u Q I rx ry ⟨_, _, rfl, rfl, q⟩
    · cases h
  · split at h
    · rename_i ds hs
      unfold inL at h
      split at h
      · rename_i yy ys e1 e2
        split at h
        · rename_i hd
          cases h
          have tx := tree_res I i.ok 60 d x f1 v yy i.r1 rx e1
          obtain ⟨a, vs, g1, rfl, sq, rs, _⟩ := seq_at i.ok i.r2 hs
          cases ry
          have main : ∀ its : List Value, Vals vs its → (∀ w, w ∈ its.toArray → EqAt X.A.in1 s w v (ansOf s.heap yy w)) ∧ its.toArray.any (ansOf s.heap yy) = ys.any fun z => z.eqv yy := fun its r' => by
            have ts := trees_res I i.ok 60 ds vs g1 its ys rs r' e2
            refine ⟨fun w hw => ?_, ?_⟩
            · obtain ⟨j, hj, ej⟩ := List.mem_iff_getElem.mp (List.mem_toArray.mp hw)
              obtain ⟨xj, h1, h2⟩ := Trees.get ys its j w ts (by rw [List.getElem?_eq_getElem hj, ej])
              rw [ansOf_eq h2]
              refine eqAt_tree xj yy X.A.in1 s w v h2 tx ?_
              have h3 := depths_get ys j xj h1
              show X.A.units + 1 + min xj.depth yy.depth < cLine
              omega
            · rw [List.any_toArray]; exact ans_any ys its ts
          rcases sq with sq | sq
          · obtain ⟨its, r', il, _⟩ := lst_at I sq
            obtain ⟨m1, m2⟩ := main its r'
            cases neg with
            | false => exact in_listAt _ il m1 (by rw [m2]; exact ⟨.bl _, H, I, rfl, q⟩)
            | true => exact notIn_listAt _ il m1 (by rw [m2]; exact ⟨.bl _, H, I, rfl, q⟩)
          · obtain ⟨its, r', it, _⟩ := I.tuple sq
            obtain ⟨m1, m2⟩ := main its r'
            cases neg with
            | false => exact in_tupleAt _ it m1 (by rw [m2]; exact ⟨.bl _, H, I, rfl, q⟩)
            | true => exact notIn_tupleAt _ it m1 (by rw [m2]; exact ⟨.bl _, H, I, rfl, q⟩)
        · cases h
      · cases h
    · split at h
      · rename_i ks vs' hd
        split at h
        · rename_i hk
          cases h
          obtain ⟨k, rfl, rfl⟩ := keyV i.r1 hk
          obtain ⟨a, us, g1, rfl, ⟨kvs, ha, rfl, rfl, nd⟩, _, _⟩ := dict_at i.ok i.r2 hd
          cases ry
          have e1 : (find (kvs.map fun p => keyD p.1) (keyD k)).isSome = (valV kvs k).isSome := by rw [find_key, findIdx_val]
          rw [e1] at q
          cases neg with
          | false => exact d_in (by omega) I (DGet.k ha) rx fun s' I' => ⟨.bl _, H, I', rfl, q⟩
          | true => exact d_notIn (by omega) I (DGet.k ha) rx fun s' I' => ⟨.bl _, H, I', rfl, q⟩
        · cases h
      · cases h
theorem eqD_ok (I : Inv X pins σ H s) {d e : D} {x y : V} {v u : Value} {f1 f2 : List Addr} {b : Bool} {Q : Value → Shared → Prop} {E : Value → Shared → Prop} (rx : RelV x v) (ry : RelV y u) (i : In2 (tOf X C) H μ S d e x y f1 f2) (h : eqD S d e = some b) (hu : X.A.units + 200 < cLine)
    (fin : ∀ k : Bool, k = b → Q (.bool k) s) : wpAny (model X.prog X.w) X.A (compareOp .Eq v u) Q E s := by
  unfold eqD at h
  split at h
  · rename_i x1 x2 e1 e2
    split at h
    · rename_i hc
      obtain ⟨rfl, hd⟩ := hc
      cases h
      have t1 := dtree_res I i.ok 60 d x f1 v x1 i.r1 rx e1
      have t2 := dtree_res I i.ok 60 e y f2 u x1 i.r2 ry e2
      exact dtree_rc x1 X.A v u t1 t2 (by omega) _ _ (fin _ rfl)
    · cases h
  · cases h
theorem op_cmp (hu : X.A.units + 200 < cLine) : ∀ o : Cmp, OpR X (compareOp (cOf o)) (rCmp (tOf X C) o) := by
  intro o pins s σ H x y v u Q I rx ry ⟨d, e, S, μ, f1, f2, b, i, h, q⟩
  have fin : ∀ k : Bool, k = b → EP X pins σ Q (.bool k) s := fun k e => ⟨.bl b, H, I, by rw [e]; rfl, q⟩
  have eqs : ∀ k, eqE S d e = some k → ∃ x' y', Tree s.heap x' v ∧ Tree s.heap y' u ∧ k = x'.eqv y' ∧ X.A.units + min x'.depth y'.depth < cLine := fun k hk => by
    unfold eqE at hk
    split at hk
    · rename_i x' y' e1 e2
      split at hk
      · rename_i hd
        cases hk
        exact ⟨x', y', tree_res I i.ok 60 d x f1 v x' i.r1 rx e1, tree_res I i.ok 60 e y f2 u y' i.r2 ry e2, rfl, by omega⟩
      · cases hk
    · cases hk
  cases o with
  | eq =>
    have h1 : orD (eqE S d e) S d e = some b := h
    unfold orD at h1
    split at h1
    · rename_i k hk
      cases h1
      obtain ⟨x', y', t1, t2, rfl, hd⟩ := eqs _ hk
      exact rcAt_tree x' y' X.A s v u t1 t2 hd _ _ _ _ (fin _ rfl)
    · exact eqD_ok I rx ry i h1 hu fin
  | ne =>
    obtain ⟨k, hk, rfl⟩ := Option.map_eq_some_iff.mp (show (eqE S d e).map (!·) = some b from h)
    obtain ⟨x', y', t1, t2, rfl, hd⟩ := eqs k hk
    exact rcNeAt_tree x' y' X.A s v u t1 t2 hd _ _ _ _ (fin _ rfl)
  | lt =>
    have h' : ltE d e = some b := h
    unfold ltE at h'
    split at h'
    · cases h'
      obtain ⟨rfl, _⟩ := i.r1; obtain ⟨rfl, _⟩ := i.r2
      exact op_lt pins s σ H _ _ v u Q I rx ry ⟨_, _, rfl, rfl, q⟩
    · cases h'
      obtain ⟨rfl, _⟩ := i.r1; obtain ⟨rfl, _⟩ := i.r2
      exact op_lt_str pins s σ H _ _ v u Q I rx ry ⟨_, _, rfl, rfl, q⟩
    · cases h'
  | gt =>
    have h' : ltE e d = some b := h
    unfold ltE at h'
    split at h'
    · cases h'
      obtain ⟨rfl, _⟩ := i.r1; obtain ⟨rfl, _⟩ := i.r2
      exact op_gt pins s σ H _ _ v u Q I rx ry ⟨_, _, rfl, rfl, q⟩
    · cases h'
      obtain ⟨rfl, _⟩ := i.r1; obtain ⟨rfl, _⟩ := i.r2
      exact op_gt_str pins s σ H _ _ v u Q I rx ry ⟨_, _, rfl, rfl, q⟩
    · cases h'
  | le =>
    cases d with
    | int m =>
      cases e with
      | int n =>
        cases h
        obtain ⟨rfl, _⟩ := i.r1; obtain ⟨rfl, _⟩ := i.r2
        exact op_le pins s σ H _ _ v u Q I rx ry ⟨_, _, rfl, rfl, q⟩
      | _ => cases h
    | _ => cases e <;> cases h
  | ge =>
    cases d with
    | int m =>
      cases e with
      | int n =>
        cases h
        obtain ⟨rfl, _⟩ := i.r1; obtain ⟨rfl, _⟩ := i.r2
        exact op_ge pins s σ H _ _ v u Q I rx ry ⟨_, _, rfl, rfl, q⟩
      | _ => cases h
    | _ => cases e <;> cases h
  | in_ => exact in_any (C := C) false hu I rx ry i h q
  | notin =>
    obtain ⟨k, hk, rfl⟩ := Option.map_eq_some_iff.mp (show (inE S d e).map (!·) = some b from h)
    exact in_any (C := C) true hu I rx ry i hk q
end
end Ev
end
section
set_option Elab.async false
set_option linter.all false
set_option maxRecDepth 100000
namespace Ev
open PySem PySem.Spec PyProof.Rows L2 PySem.SeqAt
section
variable {T : Pgm} {H : Hp} {μ : List Addr} {S : Sto}
/-! ### into the store -/
mutual
theorem Rep.kinds : ∀ (d : D) (v : V) (fp : List Addr), Rep T H μ d v fp → Kinds H fp
  | .non, _, _, h => by rw [h.2]; exact fun _ h => nomatch h
  | .bl _, _, _, h => by rw [h.2]; exact fun _ h => nomatch h
  | .int _, _, _, h => by rw [h.2]; exact fun _ h => nomatch h
  | .str _, _, _, h => by rw [h.2]; exact fun _ h => nomatch h
  | .tup ds, _, fp, h => by obtain ⟨a, vs, _, _, r⟩ := h; exact Reps.kinds ds vs fp r
  | .lst ds, _, fp, h => by
    obtain ⟨a, vs, fp', _, q, r, rfl⟩ := h
    intro b m
    rcases List.mem_append.mp m with m | m
    · exact Reps.kinds ds vs fp' r b m
    · have : b = a := by simpa using m
      subst this; exact .inl ⟨_, q⟩
  | .fz _, _, _, h => by obtain ⟨_, _, _, _, _, z⟩ := h; rw [z]; exact fun _ h => nomatch h
  | .dct ks ds, _, fp, h => by
    obtain ⟨a, us, fp', _, ⟨kvs, q, _⟩, r, rfl⟩ := h
    intro b m
    rcases List.mem_append.mp m with m | m
    · exact Reps.kinds ds us fp' r b m
    · have : b = a := by simpa using m
      subst this; exact .inr (.inl ⟨_, q⟩)
  | .nd ks ds, _, fp, h => by
    obtain ⟨a, us, fp', _, ⟨q, _⟩, _, r, rfl⟩ := h
    intro b m
    rcases List.mem_append.mp m with m | m
    · exact Reps.kinds ds _ fp' r b m
    · have : b = a := by simpa using m
      subst this; exact .inr (.inr ⟨(_, _), q⟩)
  | .ref _, _, _, h => by obtain ⟨_, _, _, z⟩ := h; rw [z]; exact fun _ h => nomatch h
  | .exc _, _, _, h => by obtain ⟨_, _, _, _, z⟩ := h; rw [z]; exact fun _ h => nomatch h
theorem Reps.kinds : ∀ (ds : List D) (vs : List V) (fp : List Addr), Reps T H μ ds vs fp → Kinds H fp
  | [], _, _, h => by rw [h.2]; exact fun _ h => nomatch h
  | d :: ds, _, _, h => by
    obtain ⟨v, r, f1, f2, _, h1, h2, rfl⟩ := h
    intro b m
    rcases List.mem_append.mp m with m | m
    · exact Rep.kinds d v f1 h1 b m
    · exact Reps.kinds ds r f2 h2 b m
end
/-- an object is put behind the others -/
theorem StOk.push {d : D} {a : Addr} (h : StOk T H μ S) (n : a ∉ μ) (k : Kinds H [a]) (o : ObjAt T H (μ ++ [a]) d a) : StOk T H (μ ++ [a]) (S ++ [d]) := by
  refine ⟨by simp [h.len], ?_, fun i x b h1 h2 => ?_⟩
  · refine List.nodup_append.mpr ⟨h.nd, by simp, fun x hx y hy e => ?_⟩
    have : y = a := by simpa using hy
    subst this; subst e; exact n hx
  · by_cases hi : i < S.length
    · rw [List.getElem?_append_left hi] at h1
      rw [List.getElem?_append_left (by rw [← h.len]; exact hi)] at h2
      have q := h.at_ i x b h1 h2
      cases x with
      | lst ds => obtain ⟨vs, e, r⟩ := q; exact ⟨vs, e, Reps.widen k _ _ _ r⟩
      | dct ks ds => obtain ⟨us, e, r⟩ := q; exact ⟨us, e, Reps.widen k _ _ _ r⟩
      | nd ks ds => obtain ⟨us, e, rk, r⟩ := q; exact ⟨us, e, Reps.widen k _ _ _ rk, Reps.widen k _ _ _ r⟩
      | _ => exact q.elim
    · have hl := h.len
      have hi2 : i = S.length := by
        have := (List.getElem?_eq_some_iff.mp h1).1
        simp at this; omega
      subst hi2
      have e1 : x = d := by simpa using h1.symm
      have e2 : b = a := by
        rw [hl] at h2; simpa using h2.symm
      subst e1; subst e2; exact o
mutual
theorem settle_ok : ∀ (d : D) (v : V) (fp : List Addr) (μ : List Addr) (S : Sto), Rep T H μ d v fp → StOk T H μ S → (μ ++ fp).Nodup → Rep T H (μ ++ fp) (settle d S).1 v [] ∧ StOk T H (μ ++ fp) (settle d S).2
  | .non, _, _, μ, S, h, ok, _ => by obtain ⟨rfl, rfl⟩ := h; rw [List.append_nil]; exact ⟨⟨rfl, rfl⟩, ok⟩
  | .bl _, _, _, μ, S, h, ok, _ => by obtain ⟨rfl, rfl⟩ := h; rw [List.append_nil]; exact ⟨⟨rfl, rfl⟩, ok⟩
  | .int _, _, _, μ, S, h, ok, _ => by obtain ⟨rfl, rfl⟩ := h; rw [List.append_nil]; exact ⟨⟨rfl, rfl⟩, ok⟩
  | .str _, _, _, μ, S, h, ok, _ => by obtain ⟨rfl, rfl⟩ := h; rw [List.append_nil]; exact ⟨⟨rfl, rfl⟩, ok⟩
  | .fz _, _, _, μ, S, h, ok, _ => by
    obtain ⟨a, vs, e, q, r, rfl⟩ := h
    rw [List.append_nil]; exact ⟨⟨a, vs, e, q, r, rfl⟩, ok⟩
  | .ref _, _, _, μ, S, h, ok, _ => by
    obtain ⟨a, e, q, rfl⟩ := h
    rw [List.append_nil]; exact ⟨⟨a, e, q, rfl⟩, ok⟩
  | .exc _, _, _, μ, S, h, ok, _ => by
    obtain ⟨a, e, q, na, rfl⟩ := h
    rw [List.append_nil]; exact ⟨⟨a, e, q, na, rfl⟩, ok⟩
  | .tup ds, _, fp, μ, S, h, ok, nd => by
    obtain ⟨a, vs, e, q, r⟩ := h
    obtain ⟨h1, h2⟩ := settles_ok ds vs fp μ S r ok nd
    exact ⟨⟨a, vs, e, q, h1⟩, h2⟩
  | .lst ds, _, _, μ, S, h, ok, nd => by
    obtain ⟨a, vs, fp', e, q, r, rfl⟩ := h
    rw [← List.append_assoc] at nd ⊢
    obtain ⟨h1, h2⟩ := settles_ok ds vs fp' μ S r ok (nd_left nd)
    have k : Kinds H [a] := fun b m => by
      have : b = a := by simpa using m
      subst this; exact .inl ⟨_, q⟩
    refine ⟨⟨a, e, ?_, rfl⟩, h2.push (nd_out nd a (by simp)) k ⟨vs, q, Reps.widen k _ _ _ h1⟩⟩
    rw [h2.len]; simp
  | .dct ks ds, _, _, μ, S, h, ok, nd => by
    obtain ⟨a, us, fp', e, q, r, rfl⟩ := h
    rw [← List.append_assoc] at nd ⊢
    obtain ⟨h1, h2⟩ := settles_ok ds us fp' μ S r ok (nd_left nd)
    have k : Kinds H [a] := fun b m => by
      have : b = a := by simpa using m
      subst this; obtain ⟨kvs, q, _⟩ := q; exact .inr (.inl ⟨_, q⟩)
    refine ⟨⟨a, e, ?_, rfl⟩, h2.push (nd_out nd a (by simp)) k ⟨us, q, Reps.widen k _ _ _ h1⟩⟩
    rw [h2.len]; simp
  | .nd ks ds, _, _, μ, S, h, ok, nd => by
    obtain ⟨a, xs, fp', e, q, rk, r, rfl⟩ := h
    rw [← List.append_assoc] at nd ⊢
    obtain ⟨h1, h2⟩ := settles_ok ds _ fp' μ S r ok (nd_left nd)
    have k : Kinds H [a] := fun b m => by
      have : b = a := by simpa using m
      subst this; exact .inr (.inr ⟨(_, _), q.1⟩)
    refine ⟨⟨a, e, ?_, rfl⟩, h2.push (nd_out nd a (by simp)) k ⟨xs, q, Reps.widen k _ _ _ (Reps.widen (Reps.kinds _ _ _ r) _ _ _ rk), Reps.widen k _ _ _ h1⟩⟩
    rw [h2.len]; simp
theorem settles_ok : ∀ (ds : List D) (vs : List V) (fp : List Addr) (μ : List Addr) (S : Sto), Reps T H μ ds vs fp → StOk T H μ S → (μ ++ fp).Nodup → Reps T H (μ ++ fp) (settles ds S).1 vs [] ∧ StOk T H (μ ++ fp) (settles ds S).2
  | [], _, _, μ, S, h, ok, _ => by obtain ⟨rfl, rfl⟩ := h; rw [List.append_nil]; exact ⟨⟨rfl, rfl⟩, ok⟩
  | d :: ds, _, _, μ, S, h, ok, nd => by
    obtain ⟨v, r, f1, f2, rfl, h1, h2, rfl⟩ := h
    rw [← List.append_assoc] at nd ⊢
    obtain ⟨a1, a2⟩ := settle_ok d v f1 μ S h1 ok (nd_left nd)
    obtain ⟨b1, b2⟩ := settles_ok ds r f2 (μ ++ f1) _ (Reps.widen (Rep.kinds d v f1 h1) _ _ _ h2) a2 nd
    exact ⟨⟨v, r, [], [], rfl, Rep.widen (Reps.kinds ds r f2 h2) _ _ _ a1, b1, rfl⟩, b2⟩
end
/-- an object of the store is written -/
theorem StOk.put {n : Nat} {a : Addr} {d : D} {o : HO} (h : StOk T H μ S) (hm : μ[n]? = some a) (s : Stp H μ (upd H a o) μ) (k : Kinds (upd H a o) [a]) (q : ObjAt T (upd H a o) μ d a) : StOk T (upd H a o) μ (S.set n d) := by
  refine ⟨by simp [h.len], h.nd, fun i x b h1 h2 => ?_⟩
  by_cases hi : i = n
  · subst hi
    rw [hm] at h2; cases h2
    have e : x = d := by
      have hl : i < S.length := by rw [h.len]; exact (List.getElem?_eq_some_iff.mp hm).1
      rw [List.getElem?_set_self hl] at h1
      exact (Option.some.inj h1).symm
    subst e; exact q
  · rw [List.getElem?_set_ne (fun e => hi e.symm)] at h1
    have hne : b ≠ a := fun e => by
      subst e
      obtain ⟨l1, e1⟩ := List.getElem?_eq_some_iff.mp hm
      obtain ⟨l2, e2⟩ := List.getElem?_eq_some_iff.mp h2
      exact hi ((List.getElem_inj h.nd).mp (e2.trans e1.symm))
    have kd := h.kinds
    have q := h.at_ i x b h1 h2
    cases x with
    | lst ds => obtain ⟨vs, e, r⟩ := q; exact ⟨vs, by rw [upd_ne hne]; exact e, Reps.keep kd s _ _ _ r (by simp)⟩
    | dct ks ds => obtain ⟨us, e, r⟩ := q; exact ⟨us, DictAt.keep (upd_ne hne) e, Reps.keep kd s _ _ _ r (by simp)⟩
    | nd ks ds => obtain ⟨us, e, rk, r⟩ := q; exact ⟨us, ⟨by rw [upd_ne hne]; exact e.1, e.2⟩, Reps.keep kd s _ _ _ rk (by simp), Reps.keep kd s _ _ _ r (by simp)⟩
    | _ => exact q.elim
/-- writing an object of the store is a step -/
theorem Stp.put {a : Addr} {o : HO} (m : a ∈ μ) : Stp H μ (L2.upd H a o) μ := by
  refine ⟨⟨[], by simp, by simp⟩, fun b u h n => ?_, fun b u h => ?_⟩
  · have ne : b ≠ a := fun e => n (by rw [e]; exact m)
    rw [L2.upd_ne ne]; exact h
  · by_cases e : b = a
    · subst e; exact ⟨o, L2.upd_same⟩
    · exact ⟨u, by rw [L2.upd_ne e]; exact h⟩
/-- own objects go into the store: no step of the heap -/
theorem Stp.own {fp own : List Addr} {H0 : Hp} {μ0 : List Addr} (s : Stp H0 μ0 H μ) (n : ∀ a ∈ fp, H0 a = none) : Stp H0 μ0 H (μ ++ fp) := by
  obtain ⟨e, rfl, f⟩ := s.ext
  exact ⟨⟨e ++ fp, by simp, fun a m => (List.mem_append.mp m).elim (f a) (n a)⟩, s.fr, s.dom⟩
end
end Ev
end
section
set_option Elab.async false
set_option linter.all false
set_option maxRecDepth 100000
namespace Ev
open PySem PySem.Spec PyProof.Rows L2 PySem.SeqAt
theorem atI_eq {α : Type} (xs : List α) (i : Int) : Ev.atI xs i = L2.atI xs i := by
  unfold Ev.atI L2.atI ixN
  by_cases h : 0 ≤ i
  · rw [if_pos h, if_pos h]
    by_cases h2 : i < xs.length
    · rw [if_pos h2]; rfl
    · rw [if_neg h2, List.getElem?_eq_none (by omega)]; rfl
  · rw [if_neg h, if_neg h]
    by_cases h2 : -(xs.length : Int) ≤ i
    · rw [if_pos h2, if_pos h2]; rfl
    · rw [if_neg h2, if_neg h2]; rfl
section
variable {T : Pgm} {H : Hp} {μ : List Addr} {S : Sto}
theorem Reps.get : ∀ (ds : List D) (vs : List V) (fp : List Addr) (j : Nat) (d : D), Reps T H μ ds vs fp → ds[j]? = some d → ∃ v f, vs[j]? = some v ∧ Rep T H μ d v f ∧ f.Sublist fp
  | [], _, _, _, _, _, e => by simp at e
  | d :: ds, _, _, 0, x, h, e => by
    obtain ⟨v, r, f1, f2, rfl, h1, h2, rfl⟩ := h
    simp at e; subst e
    exact ⟨v, f1, rfl, h1, List.sublist_append_left _ _⟩
  | d :: ds, _, _, j + 1, x, h, e => by
    obtain ⟨v, r, f1, f2, rfl, h1, h2, rfl⟩ := h
    obtain ⟨w, f, q1, q2, q3⟩ := Reps.get ds r f2 j x h2 (by simpa using e)
    exact ⟨w, f, by simpa using q1, q2, q3.trans (List.sublist_append_right _ _)⟩
theorem Reps.atI {ds : List D} {vs : List V} {fp : List Addr} {i : Int} {d : D} (h : Reps T H μ ds vs fp) (e : Ev.atI ds i = some d) : ∃ v f, L2.atI vs i = some v ∧ Rep T H μ d v f ∧ f.Sublist fp := by
  have hl := Reps.len _ _ _ h
  rw [atI_eq] at e
  unfold L2.atI at e ⊢
  rw [hl]
  cases q : ixN ds.length i with
  | none => rw [q] at e; cases e
  | some j =>
    rw [q] at e
    exact Reps.get ds vs fp j d h e
theorem Reps.drop : ∀ (n : Nat) (ds : List D) (vs : List V) (fp : List Addr), Reps T H μ ds vs fp → ∃ f, Reps T H μ (ds.drop n) (vs.drop n) f ∧ f.Sublist fp
  | 0, ds, vs, fp, h => ⟨fp, h, List.Sublist.refl _⟩
  | n + 1, [], vs, fp, h => by obtain ⟨rfl, rfl⟩ := h; exact ⟨[], ⟨rfl, rfl⟩, List.Sublist.refl _⟩
  | n + 1, d :: ds, vs, fp, h => by
    obtain ⟨v, r, f1, f2, rfl, h1, h2, rfl⟩ := h
    obtain ⟨f, q1, q2⟩ := Reps.drop n ds r f2 h2
    exact ⟨f, q1, q2.trans (List.sublist_append_right _ _)⟩
theorem Reps.take : ∀ (n : Nat) (ds : List D) (vs : List V) (fp : List Addr), Reps T H μ ds vs fp → ∃ f, Reps T H μ (ds.take n) (vs.take n) f ∧ f.Sublist fp
  | 0, ds, vs, fp, h => ⟨[], ⟨rfl, rfl⟩, List.nil_sublist _⟩
  | n + 1, [], vs, fp, h => by obtain ⟨rfl, rfl⟩ := h; exact ⟨[], ⟨rfl, rfl⟩, List.Sublist.refl _⟩
  | n + 1, d :: ds, vs, fp, h => by
    obtain ⟨v, r, f1, f2, rfl, h1, h2, rfl⟩ := h
    obtain ⟨f, q1, q2⟩ := Reps.take n ds r f2 h2
    exact ⟨f1 ++ f, ⟨v, r.take n, f1, f, rfl, h1, q1, rfl⟩, List.Sublist.append (List.Sublist.refl _) q2⟩
theorem out_part {z : D} {v : V} {f own : List Addr} {Q : VK} (r : Rep T H μ z v f) (nd : (μ ++ own).Nodup) (s : f.Sublist own) (q : Out T H μ S z own Q) : Q v H := q v H f (fun _ _ e => e) r (nd_sub nd s) fun a m => .inl (s.mem m)
end
/-! ### subscripts -/
def rIdx (T : Pgm) : R2 := fun x y H Q => ∃ d e S μ f1 f2 z, In2 T H μ S d e x y f1 f2 ∧ idxE S d e = some z ∧ Out T H μ S z (f1 ++ f2) Q
theorem getK_val {T : Pgm} {H : Hp} {μ : List Addr} (k : Key) : ∀ (kvs : List (Key × V)) (vs : List D) (fp : List Addr) (z : D), Reps T H μ vs (kvs.map (·.2)) fp → getK (kvs.map fun p => keyD p.1) vs (keyD k) = some z →
    ∃ v f, valV kvs k = some v ∧ Rep T H μ z v f ∧ f.Sublist fp
  | [], vs, fp, z, h, e => by
    unfold getK find at e
    simp at e
  | p :: r, vs, fp, z, h, e => by
    cases vs with
    | nil => obtain ⟨h, _⟩ := h; cases h
    | cons d ds =>
      obtain ⟨v, w, f1, f2, e1, h1, h2, rfl⟩ := h
      rw [List.map_cons] at e1
      obtain ⟨rfl, rfl⟩ := List.cons.inj e1
      unfold getK find at e
      rw [List.map_cons, List.findIdx?_cons, keyD_eqv] at e
      by_cases hk : p.1 = k
      · rw [decide_eq_true hk] at e
        simp at e; subst e
        exact ⟨p.2, f1, valV_pos hk, h1, List.sublist_append_left _ _⟩
      · rw [decide_eq_false hk] at e
        rw [valV_neg hk]
        have e' : getK (r.map fun p => keyD p.1) ds (keyD k) = some z := by
          unfold getK find
          cases q : List.findIdx? (fun x => x.eqv (keyD k)) (List.map (fun p => keyD p.1) r) with
          | none => rw [q] at e; simp at e
          | some i => rw [q] at e; simpa using e
        obtain ⟨u, f, q1, q2, q3⟩ := getK_val k r ds f2 z h2 e'
        exact ⟨u, f, q1, q2, q3.trans (List.sublist_append_right _ _)⟩
section
variable {X : Cx} {C : Nat → Addr}
theorem list_at {T : Pgm} {H : Hp} {μ : List Addr} {S : Sto} {d : D} {v : V} {fp : List Addr} {ds : List D} (ok : StOk T H μ S) (r : Rep T H μ d v fp) (e : listOf S d = some ds) :
    ∃ a vs f1, v = .ref a ∧ SqL T.K H a vs ∧ Reps T H μ ds vs f1 ∧ f1.Sublist fp := by
  unfold listOf at e
  split at e
  · cases e
    obtain ⟨a, vs, f1, rfl, q, r, rfl⟩ := r
    exact ⟨a, vs, f1, rfl, SqL.of q, r, List.sublist_append_left _ _⟩
  · cases e
    obtain ⟨a, vs, rfl, q, r, _⟩ := r
    exact ⟨a, vs, fp, rfl, q.sq, r, List.Sublist.refl _⟩
  · rename_i n
    split at e
    · rename_i ds' hS
      cases e
      obtain ⟨a, rfl, hm, rfl⟩ := r
      obtain ⟨vs, q, r⟩ := ok.at_ n _ a hS hm
      exact ⟨a, vs, [], rfl, SqL.of q, r, List.Sublist.refl _⟩
    · cases e
  · cases e
theorem ix_dict (hu : X.A.units + 1 < cLine) : IxR X (fun x y H Q => ∃ a k v kvs, x = .ref a ∧ y = kV k ∧ H a = some (.dK kvs) ∧ valV kvs k = some v ∧ Q v H) := by
  intro value slice pins s σ H x y v u Q I rx ry h hs
  obtain ⟨a, k, z, kvs, rfl, rfl, hq, he, q⟩ := h
  cases rx
  have g : DGet H a (kV k) (some z) := by rw [← he]; exact DGet.k hq
  exact tail_any (dict_typeIs I g) PySem.F.slot_dict_getitem.lookup (d_getItem hu I g ry fun w' s3 I3 rw' => ⟨z, H, I3, rw', q⟩) hs
theorem ix_d (hu : X.A.units + 1 < cLine) : IxR X (rIdx (tOf X C)) := by
  intro value slice pins s σ H x y v u Q I rx ry ⟨d, e, S, μ, f1, f2, z, i, b, q⟩ hs
  unfold idxE at b
  split at b
  · split at b
    · obtain ⟨a, vs, rfl, sq, r⟩ := i.r1
      obtain ⟨rfl, rfl⟩ := i.r2
      obtain ⟨w, f, g1, g2, g3⟩ := Reps.atI r b
      exact ix_tup value slice pins s σ H _ _ v u Q I rx ry ⟨a, vs, _, w, rfl, rfl, sq, g1, out_part g2 (by simpa using i.nd) (by simpa using g3) q⟩ hs
    · cases b
  · split at b
    · split at b
      · rename_i hl
        obtain ⟨c, e1, rfl⟩ := Option.map_eq_some_iff.mp b
        obtain ⟨rfl, rfl⟩ := i.r1; obtain ⟨rfl, rfl⟩ := i.r2
        rw [atI_eq] at e1
        exact ix_str value slice pins s σ H _ _ v u Q I rx ry ⟨_, _, c, rfl, rfl, hl, e1, out_str i.ok q⟩ hs
      · cases b
    · cases b
  · split at b
    · rename_i ds hl
      split at b
      · obtain ⟨a, vs, g, rfl, sq, r, sb⟩ := list_at i.ok i.r1 hl
        obtain ⟨rfl, rfl⟩ := i.r2
        obtain ⟨w, f, g1, g2, g3⟩ := Reps.atI r b
        exact ix_list value slice pins s σ H _ _ v u Q I rx ry ⟨a, vs, _, w, rfl, rfl, sq, g1, out_part g2 (by simpa using i.nd) (by simpa using g3.trans sb) q⟩ hs
      · cases b
    · split at b
      · rename_i ks vs' hd
        split at b
        · rename_i hk
          obtain ⟨k, rfl, rfl⟩ := keyV i.r2 hk
          obtain ⟨a, us, g, rfl, ⟨kvs, ha, rfl, rfl, nd⟩, rs, sb⟩ := dict_at i.ok i.r1 hd
          obtain ⟨w, f, g1, g2, g3⟩ := getK_val k kvs vs' g z rs b
          exact ix_dict hu value slice pins s σ H _ _ v u Q I rx ry ⟨a, k, w, kvs, rfl, rfl, ha, g1, out_part g2 i.nd (sub_l (g3.trans sb)) q⟩ hs
        · cases b
      · cases b
/-! ### slices -/
def partOf : D → Option (Option Int)
  | .non => some none
  | .int i => some (some i)
  | _ => none
theorem sIx_eq {n d : Nat} {lo : D} {i : Nat} (h : Ev.sIx n d lo = some i) : ∃ o, partOf lo = some o ∧ i = HT.sIx n d o := by
  unfold Ev.sIx at h
  split at h
  · cases h; exact ⟨none, rfl, rfl⟩
  · cases h; exact ⟨some _, rfl, rfl⟩
  · cases h
def rSlD (T : Pgm) : V → Option Int → Option Int → Hp → VK → Prop := fun x l h H Q => ∃ d lo hi S μ fp z, Rep T H μ d x fp ∧ StOk T H μ S ∧ (μ ++ fp).Nodup ∧ partOf lo = some l ∧ partOf hi = some h ∧ slE S d lo hi = some z ∧ Out T H μ S z fp Q
theorem Reps.cut {T : Pgm} {H : Hp} {μ : List Addr} {ds : List D} {vs : List V} {fp : List Addr} (lo hi : Option Int) (h : Reps T H μ ds vs fp) : ∃ f, Reps T H μ (Ev.cut ds (HT.sIx ds.length 0 lo) (HT.sIx ds.length ds.length hi)) (cutV vs lo hi) f ∧ f.Sublist fp := by
  unfold Ev.cut cutV
  rw [Reps.len _ _ _ h]
  obtain ⟨f, h1, s1⟩ := Reps.drop (HT.sIx ds.length 0 lo) _ _ _ h
  obtain ⟨f', h2, s2⟩ := Reps.take (HT.sIx ds.length ds.length hi - HT.sIx ds.length 0 lo) _ _ _ h1
  exact ⟨f', h2, s2.trans s1⟩
theorem sl_d : SlR X (rSlD (tOf X C)) := by
  intro pins s σ H x v vl vu lo hi sl Q I rx hs pl pu ⟨d, l, h, S, μ, fp, z, r, ok, nd, p1, p2, b, q⟩
  unfold slE at b
  split at b
  · split at b
    · rename_i e1 e2
      cases b
      obtain ⟨o1, g1, rfl⟩ := sIx_eq e1
      obtain ⟨o2, g2, rfl⟩ := sIx_eq e2
      rw [p1] at g1; cases g1
      rw [p2] at g2; cases g2
      obtain ⟨a, vs, rfl, sq, rs⟩ := r
      have hl := Reps.len _ _ _ rs
      obtain ⟨f, h1, s1⟩ := Reps.cut lo hi rs
      refine sl_tupA pins s σ H _ v vl vu lo hi sl Q I rx hs pl pu ⟨a, vs, rfl, sq, fun ⟨w1, w2⟩ => ?_, fun _ => ?_⟩
      · rw [hl] at w1 w2
        rw [w1, w2] at q
        refine q _ H fp (fun _ _ e => e) ⟨a, vs, rfl, sq, ?_⟩ nd fun a m => .inl m
        unfold Ev.cut
        rw [List.drop_zero, Nat.sub_zero, List.take_length]; exact rs
      · exact out_tup h1 (nd_sub nd s1) (fun a m => s1.mem m) q
    · cases b
  · split at b
    · rename_i e1 e2
      split at b
      · rename_i hl
        cases b
        obtain ⟨o1, g1, rfl⟩ := sIx_eq e1
        obtain ⟨o2, g2, rfl⟩ := sIx_eq e2
        rw [p1] at g1; cases g1
        rw [p2] at g2; cases g2
        obtain ⟨rfl, rfl⟩ := r
        exact sl_str pins s σ H _ v vl vu lo hi sl Q I rx hs pl pu ⟨_, rfl, hl, out_str ok q⟩
      · cases b
    · cases b
  · split at b
    · rename_i ds hd
      split at b
      · rename_i e1 e2
        cases b
        obtain ⟨o1, g1, rfl⟩ := sIx_eq e1
        obtain ⟨o2, g2, rfl⟩ := sIx_eq e2
        rw [p1] at g1; cases g1
        rw [p2] at g2; cases g2
        obtain ⟨a, vs, g, rfl, sq, rs, sb⟩ := list_at ok r hd
        obtain ⟨f, h1, s1⟩ := Reps.cut lo hi rs
        exact sl_list pins s σ H _ v vl vu lo hi sl Q I rx hs pl pu ⟨a, vs, rfl, sq, out_lst ok h1 (nd_sub nd (s1.trans sb)) (fun a m => (s1.trans sb).mem m) q⟩
      · cases b
    · cases b
end
/-! ### isinstance -/
def VT.name : VT → String
  | .non => "NoneType"
  | .bl => "bool"
  | .int => "int"
  | .str => "str"
  | .tup => "tuple"
  | .lst => "list"
  | .dct => "dict"
def clsV (C : Nat → Addr) : Ty → V
  | .int => .ty "int"
  | .str => .ty "str"
  | .tuple => .ty "tuple"
  | .list => .ty "list"
  | .dict => .ty "dict"
  | .bool => .ty "bool"
  | .valueError => .ty "ValueError"
  | .cls c => .ref (C c)
def clsU (C : Nat → Addr) : Ty → Value
  | .int => .type "int"
  | .str => .type "str"
  | .tuple => .type "tuple"
  | .list => .type "list"
  | .dict => .type "dict"
  | .bool => .type "bool"
  | .valueError => .type "ValueError"
  | .cls c => .ref (C c)
theorem clsV_ok (C : Nat → Addr) (t : Ty) : ClsV (clsV C t) (clsU C t) := by
  cases t with
  | cls c => exact .own _
  | _ => exact .ty _
/-- what is known of the exception classes -/
structure ExcK (K : PySem.W.Frag) (C : Nat → Addr) (isa : Nat → Ty → Bool) : Prop where
  exc : ∀ c, C c ≠ 0 → ExcC K (C c)
  kit : ∀ c c', C c ≠ 0 → PySem.W.kitOne K (.ref (C c)) (.ref (C c')) = some (isa c (.cls c'))
  val : ∀ c, C c ≠ 0 → PySem.W.kitOne K (.ref (C c)) (.type "ValueError") = some (isa c .valueError)
  made : ∀ c, C c ≠ 0 → PySem.W.excIn K (C c) [.type "ValueError", .type "Exception", .type "BaseException", .type "object"] "ValueError.__new__" = true ∧ PySem.W.keepIn K (.ref (C c)) = true ∧ PySem.W.subIn K (.ref (C c)) (.type "BaseException") = some true ∧ PySem.W.typeIn K (.ref (C c)) = some (.type "type")
  exm : ∀ c c', C c ≠ 0 → PySem.W.exmOne K (.ref (C c)) (.ref (C c')) = some (isa c (.cls c'))
theorem kit_vt (K : PySem.W.Frag) (C : Nat → Addr) (v : VT) (t : Ty) (b : Bool) (h : isVT t v = some b) : PySem.W.kitOne K (.type v.name) (clsU C t) = some b := by
  cases t with
  | cls c => cases h
  | valueError => cases h
  | _ => cases v <;> cases h <;> exact kit_ty (by decide +kernel)
section
variable {X : Cx} {C : Nat → Addr} {isa : Nat → Ty → Bool} {pins : List (Addr × Obj)} {σ : Slots} {H : Hp} {s : Shared} {μ : List Addr} {S : Sto}
theorem tyx_of (ok : StOk (tOf X C) H μ S) {d : D} {x : V} {fp : List Addr} {v : VT} (r : Rep (tOf X C) H μ d x fp) (e : vtOf S d = some v) : TyX X.K H x (.type v.name) := by
  have sqL : ∀ {a : Addr} {vs : List V}, SqL X.K H a vs → TyX X.K H (.ref a) (.type "list") := fun {a vs} q => by
    rcases q with (q | ⟨o, q⟩) | ⟨o, its, n, q, c, _⟩
    · exact .base (.lst q)
    · exact .base (.frz q)
    · exact .kList q c
  cases d with
  | non => cases e; obtain ⟨rfl, _⟩ := r; exact .base .non
  | bl b => cases e; obtain ⟨rfl, _⟩ := r; exact .base (.bl b)
  | int b => cases e; obtain ⟨rfl, _⟩ := r; exact .base (.int b)
  | str b => cases e; obtain ⟨rfl, _⟩ := r; exact .base (.str b)
  | tup ds =>
    cases e
    obtain ⟨a, vs, rfl, q, _⟩ := r
    rcases q with (q | ⟨o, q⟩) | ⟨o, its, n, q, c, _⟩
    · exact .base (.tup q)
    · exact .fTuple q
    · exact .kTuple q c
  | lst ds => cases e; obtain ⟨a, vs, f, rfl, q, _⟩ := r; exact sqL (SqL.of q)
  | fz ds => cases e; obtain ⟨a, vs, rfl, q, _⟩ := r; exact sqL q.sq
  | dct ks ds => cases e; obtain ⟨a, vs, f, rfl, ⟨kvs, q, _⟩, _⟩ := r; exact .base (.dK q)
  | exc c => cases e
  | nd _ _ => cases e
  | ref n =>
    obtain ⟨a, rfl, hm, _⟩ := r
    cases hS : S[n]? with
    | none =>
      have e' : (match S[n]? with | some (.lst _) => some VT.lst | some (.dct _ _) => some VT.dct | _ => none) = some v := e
      rw [hS] at e'; cases e'
    | some o =>
      have e' : (match S[n]? with | some (.lst _) => some VT.lst | some (.dct _ _) => some VT.dct | _ => none) = some v := e
      rw [hS] at e'
      have q := ok.at_ n o a hS hm
      cases o with
      | lst ds => cases e'; obtain ⟨vs, q, _⟩ := q; exact sqL (SqL.of q)
      | dct ks ds => cases e'; obtain ⟨us, ⟨kvs, q, _⟩, _⟩ := q; exact .base (.dK q)
      | nd _ _ => cases e'
      | _ => exact q.elim
theorem kit_d (ec : ExcK X.K C isa) (I : Inv X pins σ H s) (ok : StOk (tOf X C) H μ S) {d : D} {x : V} {fp : List Addr} {u : Value} (r : Rep (tOf X C) H μ d x fp) (rx : RelV x u) {t0 : Ty} {b0 : Bool} (h0 : isTy isa S t0 d = some b0) :
    ∃ (t : Value) (P : Heap → Prop), PySem.W.KitX X.K u t P ∧ P s.heap ∧ u ≠ .builtin "__main__.__loader__#opaque" ∧ ∀ ty b, isTy isa S ty d = some b → PySem.W.kitOne X.K t (clsU C ty) = some b := by
  by_cases hx : ∃ c, d = .exc c
  · obtain ⟨c, rfl⟩ := hx
    obtain ⟨a, rfl, q, na, _⟩ := r
    cases rx
    obtain ⟨⟨oe, vs, hg, hc, hd, hv⟩, _, _⟩ := I.hok a _ q
    have E := ec.exc c na.2
    have J : PySem.W.InstAt s.heap a oe (C c) none := by
      obtain ⟨oc, od, oda, osl⟩ := oe
      dsimp only at hc hd hv
      subst hc hd hv
      exact ⟨hg, rfl, rfl, trivial⟩
    refine ⟨.ref (C c), _, PySem.W.handS_kitx_exc E.hg E.hk E.hs E.hd E.ha E.hn E.ht E.hm, J, (fun z => nomatch z), fun ty b h => ?_⟩
    cases ty with
    | cls c' => cases h; exact ec.kit c c' na.2
    | valueError => cases h; exact ec.val c na.2
    | _ => cases h
  · have hv : ∀ ty b, isTy isa S ty d = some b → ∃ v, vtOf S d = some v ∧ isVT ty v = some b := fun ty b h => by
      cases d with
      | exc c => exact absurd ⟨c, rfl⟩ hx
      | _ =>
        unfold isTy at h
        split at h
        · rename_i hd; cases hd
        · split at h
          · exact ⟨_, by assumption, h⟩
          · cases h
    obtain ⟨v, hv0, _⟩ := hv t0 b0 h0
    obtain ⟨P, Z, p, hb⟩ := kit_of I rx (tyx_of ok r hv0)
    refine ⟨_, P, Z, p, hb, fun ty b h => ?_⟩
    obtain ⟨v', h1, h2⟩ := hv ty b h
    rw [hv0] at h1; cases h1
    exact kit_vt X.K C v ty b h2
theorem kit_ds (C : Nat → Addr) {K : PySem.W.Frag} {t : Value} {d : D} (hk : ∀ ty b, isTy isa S ty d = some b → PySem.W.kitOne K t (clsU C ty) = some b) : ∀ (ts : List Ty) (b : Bool), isTys isa S d ts = some b → PySem.W.kitAny K t (ts.map (clsU C)) = some b
  | [], b, h => h
  | ty :: ts, b, h => by
    unfold isTys at h
    rw [List.map_cons]
    split at h
    · rename_i e
      cases h
      exact kitAny_cons (hk ty true e) (fun z => nomatch z) fun _ => rfl
    · rename_i e
      exact kitAny_cons (hk ty false e) (fun _ => kit_ds C hk ts b h) fun z => nomatch z
    · cases h
end
/-- isinstance(x, T), isinstance(x, (T, ..)) -/
def rIsD (T : Pgm) (isa : Nat → Ty → Bool) (ts : List Ty) : List V → Hp → VK → Prop := fun xs H Q => ∃ d S μ fp x b, Rep T H μ d x fp ∧ StOk T H μ S ∧ isTys isa S d ts = some b ∧ Q (.bl b) H ∧
  ((∃ t, ts = [t] ∧ xs = [x, clsV T.C t]) ∨ ∃ tp, xs = [x, .ref tp] ∧ H tp = some (.tup (ts.map (clsV T.C))))
section
variable {X : Cx} {C : Nat → Addr} {isa : Nat → Ty → Bool}
theorem call_isD (ec : ExcK X.K C isa) (ts : List Ty) (hne : ts ≠ []) : CallR X (.builtin "isinstance") (rIsD (tOf X C) isa ts) := by
  intro pins s σ H xs us Q I r ⟨d, S, μ, fp, x, b, rp, ok, e, q, alt⟩
  cases ts with
  | nil => exact absurd rfl hne
  | cons t0 ts0 =>
  have h0 : ∃ b0, isTy isa S t0 d = some b0 := by
    unfold isTys at e
    split at e
    · exact ⟨_, by assumption⟩
    · exact ⟨_, by assumption⟩
    · cases e
  obtain ⟨b0, h0⟩ := h0
  rcases alt with ⟨t, z, rfl⟩ | ⟨tp, rfl, hT⟩
  · cases z
    obtain ⟨u1, u2, rfl, r1, r2⟩ := vals2 r
    obtain ⟨ty, P, Z, p, hb, hk⟩ := kit_d ec I ok rp r1 h0
    have e2 := (clsV_ok C t0).eq r2
    subst e2
    have hb0 : b0 = b := by
      unfold isTys at e
      rw [h0] at e
      cases b0 with
      | true => cases e; rfl
      | false => cases e; rfl
    subst hb0
    exact PySem.W.kia_one Z I.kIn p (hk t0 b0 h0) hb fun tk => ⟨.bl b0, H, I.tok tk, rfl, q⟩
  · obtain ⟨u1, u2, rfl, r1, r2⟩ := vals2 r
    cases (show u2 = Value.ref tp from r2)
    obtain ⟨ty, P, Z, p, hb, hk⟩ := kit_d ec I ok rp r1 h0
    obtain ⟨_, its, rv, o, h1, h2, n, h3⟩ := (show ObjOk X.prog X.w H s.heap tp (.tup _) from I.hok tp _ hT)
    have pr : ∀ l : List Ty, Paired ClsV (l.map (clsV C)) (l.map (clsU C)) := fun l => by
      induction l with
      | nil => exact .nil
      | cons a l ih => exact .cons (clsV_ok C a) ih
    have e3 := ClsV.all (pr (t0 :: ts0)) rv
    subst e3
    obtain ⟨oc, od, dt, sl⟩ := o
    simp only at h2 h3
    subst h2 h3
    exact PySem.W.kia_tup Z I.kIn p h1 (kit_ds C hk (t0 :: ts0) b e) hb fun tk => ⟨.bl b, H, I.tok tk, rfl, q⟩
end
end Ev
end
section
set_option Elab.async false
set_option linter.all false
set_option maxRecDepth 100000
namespace Ev
open PySem PySem.Spec PyProof.Rows L2 PySem.SeqAt
/-! ### order -/
theorem lt_trans_nat : ∀ (a b c : List Nat), a < b → b < c → a < c := fun a b c h1 h2 => List.lt_trans h1 h2
theorem strLe_trans (x y z : Str) (h1 : (!strLt y x) = true) (h2 : (!strLt z y) = true) : (!strLt z x) = true := by
  unfold strLt at *
  simp only [Bool.not_eq_true', decide_eq_false_iff_not, List.not_lt] at *
  exact List.le_trans h1 h2
theorem strLe_total (x y : Str) : (!strLt y x || !strLt x y) = true := by
  unfold strLt
  simp only [Bool.or_eq_true, Bool.not_eq_true', decide_eq_false_iff_not, List.not_lt]
  exact List.le_total _ _
theorem strLe_anti (x y : Str) (h1 : (!strLt y x) = true) (h2 : (!strLt x y) = true) : x = y := by
  unfold strLt at *
  simp only [Bool.not_eq_true', decide_eq_false_iff_not, List.not_lt] at *
  have := List.le_antisymm h1 h2
  cases x; cases y
  simp only [Str.mk.injEq]
  exact Array.toList_inj.mp this
theorem perm_sorted {α : Type} {le : α → α → Bool} (anti : ∀ a b, le a b = true → le b a = true → a = b) : ∀ (xs ys : List α), xs.Perm ys → xs.Pairwise (fun a b => le a b = true) → ys.Pairwise (fun a b => le a b = true) → xs = ys
  | [], ys, p, _, _ => (List.Perm.nil_eq p)
  | x :: xs, [], p, _, _ => absurd p.symm (by simp)
  | x :: xs, y :: ys, p, h1, h2 => by
    obtain ⟨a1, a2⟩ := List.pairwise_cons.mp h1
    obtain ⟨b1, b2⟩ := List.pairwise_cons.mp h2
    have e : x = y := by
      by_cases h : x = y
      · exact h
      · have m1 : x ∈ ys := (List.mem_cons.mp (p.mem_iff.mp List.mem_cons_self)).resolve_left h
        have m2 : y ∈ xs := (List.mem_cons.mp (p.mem_iff.mpr List.mem_cons_self)).resolve_left (fun e => h e.symm)
        exact anti x y (a1 y m2) (b1 x m1)
    subst e
    rw [perm_sorted anti xs ys (p.cons_inv) a2 b2]
theorem rising_pair : ∀ (ys : List Str) (p : Str), risingS p ys = true → (p :: ys).Pairwise (fun a b => (!strLt b a) = true)
  | [], p, _ => by simp
  | y :: r, p, h => by
    obtain ⟨h1, h2⟩ := Bool.and_eq_true_iff.mp (show (!ltCps y.cps.toList p.cps.toList && risingS y r) = true from h)
    have ih := rising_pair r y h2
    have e : (!strLt y p) = true := by
      unfold strLt
      rw [← ltCps_eq]; exact h1
    refine List.pairwise_cons.mpr ⟨fun z hz => ?_, ih⟩
    rcases List.mem_cons.mp hz with rfl | hz
    · exact e
    · exact strLe_trans p y z e ((List.pairwise_cons.mp ih).1 z hz)
theorem sorted_is {xs ys : List Str} (p : ys.Perm xs) (s : sortedS ys = true) : ys = sortedStrs xs := by
  refine perm_sorted (le := fun a b => !strLt b a) (fun a b => strLe_anti a b) ys _ (p.trans (List.mergeSort_perm xs _).symm) ?_ ?_
  · cases ys with
    | nil => exact List.Pairwise.nil
    | cons y r => exact rising_pair r y s
  · exact List.pairwise_mergeSort (fun a b c => strLe_trans a b c) (fun a b => strLe_total a b) xs
theorem max_is : ∀ (ns : List Int) (x m : Int), m ∈ x :: ns → (∀ y, y ∈ x :: ns → y ≤ m) → m = maxOf (x :: ns) := by
  intro ns
  induction ns with
  | nil => intro x m h1 h2; simpa [maxOf] using h1
  | cons y r ih =>
    intro x m h1 h2
    show m = List.foldl max (max x y) r
    have := ih (max x y) m ?_ ?_
    · exact this
    · rcases List.mem_cons.mp h1 with e | h1
      · have := h2 y (by simp)
        rw [show max x y = m by omega]; simp
      · rcases List.mem_cons.mp h1 with e | h1
        · have := h2 x (by simp)
          rw [show max x y = m by omega]; simp
        · exact List.mem_cons_of_mem _ h1
    · intro z hz
      rcases List.mem_cons.mp hz with e | hz
      · have a := h2 x (by simp)
        have b := h2 y (by simp)
        omega
      · exact h2 z (by simp [hz])
section
variable {T : Pgm} {H : Hp} {μ : List Addr}
theorem Reps.ints : ∀ (ds : List D) (vs : List V) (fp : List Addr) (ns : List Int), Reps T H μ ds vs fp → intsOf ds = some ns → vs = ns.map V.int
  | [], vs, _, ns, h, e => by obtain ⟨rfl, _⟩ := h; cases e; rfl
  | d :: ds, _, _, ns, h, e => by
    obtain ⟨v, r, f1, f2, rfl, h1, h2, rfl⟩ := h
    cases d with
    | int i =>
      obtain ⟨ms, e1, rfl⟩ := Option.map_eq_some_iff.mp (show (intsOf ds).map (i :: ·) = some ns from e)
      obtain ⟨rfl, _⟩ := h1
      rw [Reps.ints ds r f2 ms h2 e1]; rfl
    | _ => cases e
theorem Reps.strs : ∀ (ds : List D) (vs : List V) (fp : List Addr) (ns : List Str), Reps T H μ ds vs fp → strsOf ds = some ns → vs = ns.map V.str
  | [], vs, _, ns, h, e => by obtain ⟨rfl, _⟩ := h; cases e; rfl
  | d :: ds, _, _, ns, h, e => by
    obtain ⟨v, r, f1, f2, rfl, h1, h2, rfl⟩ := h
    cases d with
    | str i =>
      obtain ⟨ms, e1, rfl⟩ := Option.map_eq_some_iff.mp (show (strsOf ds).map (i :: ·) = some ns from e)
      obtain ⟨rfl, _⟩ := h1
      rw [Reps.strs ds r f2 ms h2 e1]; rfl
    | _ => cases e
theorem reps_strs (T : Pgm) (H : Hp) (μ : List Addr) : ∀ xs : List Str, Reps T H μ (xs.map .str) (xs.map V.str) []
  | [] => ⟨rfl, rfl⟩
  | x :: r => ⟨_, _, [], [], rfl, ⟨rfl, rfl⟩, reps_strs T H μ r, rfl⟩
theorem keys_strs : ∀ (kvs : List (Key × V)) (xs : List Str), strsOf (kvs.map fun p => keyD p.1) = some xs → kvs.map (·.1) = xs.map Sum.inr
  | [], xs, e => by cases e; rfl
  | (.inl i, v) :: r, xs, e => by cases e
  | (.inr x, v) :: r, xs, e => by
    obtain ⟨ms, e1, rfl⟩ := Option.map_eq_some_iff.mp (show (strsOf (r.map fun p => keyD p.1)).map (x :: ·) = some xs from e)
    rw [List.map_cons, List.map_cons, keys_strs r ms e1]
end
/-! ### built-ins called by name -/
def bId : Blt → Value
  | .len => .builtin "len"
  | .abs => .builtin "abs"
  | .min2 => .builtin "min"
  | .max2 => .builtin "max"
  | .maxL => .builtin "max"
  | .minL => .builtin "min"
  | .sum => .builtin "sum"
  | .sorted => .builtin "sorted"
  | .tuple => .type "tuple"
  | .list => .type "list"
  | .int => .type "int"
  | .str => .type "str"
def rBlt (T : Pgm) (b : Blt) : List V → Hp → VK → Prop := fun xs H Q => ∃ ds S μ fp z, Reps T H μ ds xs fp ∧ StOk T H μ S ∧ (μ ++ fp).Nodup ∧ bltE S b ds = some z ∧ Out T H μ S z fp Q
section
variable {X : Cx} {C : Nat → Addr}
theorem Reps.one {T : Pgm} {H : Hp} {μ : List Addr} {d : D} {vs : List V} {fp : List Addr} (h : Reps T H μ [d] vs fp) : ∃ v, vs = [v] ∧ Rep T H μ d v fp := by
  obtain ⟨v, r, f1, f2, rfl, h1, ⟨rfl, rfl⟩, rfl⟩ := h
  exact ⟨v, rfl, by simpa using h1⟩
theorem Reps.two {T : Pgm} {H : Hp} {μ : List Addr} {d e : D} {vs : List V} {fp : List Addr} (h : Reps T H μ [d, e] vs fp) : ∃ u v f1 f2, vs = [u, v] ∧ Rep T H μ d u f1 ∧ Rep T H μ e v f2 ∧ fp = f1 ++ f2 := by
  obtain ⟨v, r, f1, f2, rfl, h1, h2, rfl⟩ := h
  obtain ⟨w, rfl, h3⟩ := Reps.one h2
  exact ⟨v, w, f1, f2, rfl, h1, h3, rfl⟩
theorem call_blt (hc : X.calm = true) : ∀ b : Blt, CallR X (bId b) (rBlt (tOf X C) b) := by
  intro b pins s σ H xs us Q I rv ⟨ds, S, μ, fp, z, r, ok, nd, e, q⟩
  unfold bltE at e
  split at e
  · obtain ⟨v, rfl, r1⟩ := Reps.one r
    split at e
    · split at e
      · rename_i hl
        cases e
        obtain ⟨rfl, rfl⟩ := r1
        exact call_len_str pins s σ H _ us Q I rv ⟨_, rfl, hl, out_int ok q⟩
      · cases e
    · split at e
      · rename_i ds' hs
        cases e
        obtain ⟨a, vs, g, rfl, sq, rs, _⟩ := seq_at ok r1 hs
        have hl := Reps.len _ _ _ rs
        refine call_len_seq pins s σ H _ us Q I rv ⟨a, vs, rfl, sq, ?_⟩
        rw [hl]; exact out_int ok q
      · split at e
        · rename_i ks vs' hd
          cases e
          obtain ⟨a, us', g, rfl, ⟨kvs, ha, rfl, rfl, _⟩, _, _⟩ := dict_at ok r1 hd
          refine call_lenD pins s σ H _ us Q I rv ⟨a, kvs, rfl, ha, ?_⟩
          rw [List.length_map] at q
          exact out_int ok q
        · cases e
  · cases e
    obtain ⟨v, rfl, rfl, rfl⟩ := Reps.one r
    exact call_abs pins s σ H _ us Q I rv ⟨_, rfl, out_int ok q⟩
  · cases e
    obtain ⟨u, v, f1, f2, rfl, ⟨rfl, rfl⟩, ⟨rfl, rfl⟩, rfl⟩ := Reps.two r
    exact call_min2 hc pins s σ H _ us Q I rv ⟨_, _, rfl, out_int ok q⟩
  · cases e
    obtain ⟨u, v, f1, f2, rfl, ⟨rfl, rfl⟩, ⟨rfl, rfl⟩, rfl⟩ := Reps.two r
    exact call_max2 hc pins s σ H _ us Q I rv ⟨_, _, rfl, out_int ok q⟩
  · split at e
    · rename_i x' r' e1
      cases e
      obtain ⟨v, rfl, r1⟩ := Reps.one r
      obtain ⟨ds', e2, e3⟩ := Option.bind_eq_some_iff.mp e1
      obtain ⟨a, vs, g, rfl, sq, rs, _⟩ := list_at ok r1 e2
      have ei := Reps.ints _ _ _ _ rs e3
      subst ei
      refine cr_max hc pins s σ H _ us Q I rv ⟨a, _, rfl, sq, by simp, fun m h1 h2 => ?_⟩
      rw [max_is r' x' m h1 h2]; exact out_int ok q
    · cases e
  · split at e
    · rename_i ns e1
      cases e
      obtain ⟨v, rfl, r1⟩ := Reps.one r
      obtain ⟨ds', e2, e3⟩ := Option.bind_eq_some_iff.mp e1
      obtain ⟨a, vs, g, rfl, sq, rs, _⟩ := list_at ok r1 e2
      have ei := Reps.ints _ _ _ _ rs e3
      subst ei
      exact cr_sum hc pins s σ H _ us Q I rv ⟨a, _, rfl, sq, out_int ok q⟩
    · cases e
  · obtain ⟨v, rfl, r1⟩ := Reps.one r
    split at e
    · rename_i ds' hl
      split at e
      · rename_i xs' hx
        split at e
        · rename_i h64
          cases e
          obtain ⟨a, vs, g, rfl, sq, rs, _⟩ := list_at ok r1 hl
          have ei := Reps.strs _ _ _ _ rs hx
          subst ei
          refine cr_sortedS pins s σ H _ us Q I rv ⟨a, xs', rfl, sq, h64, fun ys p pm so np => ?_⟩
          rw [sorted_is pm so]
          exact out_lst ok (reps_strs _ _ _ _) (by simpa using ok.nd) (by simp) q p np
        · cases e
      · cases e
    · split at e
      · rename_i ks vs' hd
        split at e
        · rename_i xs' hx
          split at e
          · rename_i h64
            cases e
            obtain ⟨a, us', g, rfl, ⟨kvs, ha, rfl, rfl, _⟩, _, _⟩ := dict_at ok r1 hd
            refine call_sortedD hc pins s σ H _ us Q I rv ⟨a, kvs, xs', rfl, .inl ha, keys_strs kvs xs' hx, h64, fun ys p pm so np => ?_⟩
            rw [sorted_is pm so]
            exact out_lst ok (reps_strs _ _ _ _) (by simpa using ok.nd) (by simp) q p np
          · cases e
        · cases e
      · cases e
  · obtain ⟨v, rfl, r1⟩ := Reps.one r
    obtain ⟨ds', hs, rfl⟩ := Option.map_eq_some_iff.mp e
    unfold seqOf at hs
    split at hs
    · cases hs
      obtain ⟨a, vs, rfl, sq, rs⟩ := r1
      exact call_tuple_of pins s σ H _ us Q I rv ⟨a, vs, rfl, .inr ⟨sq, q _ H fp (fun _ _ e => e) ⟨a, vs, rfl, sq, rs⟩ nd fun a m => .inl m⟩⟩
    · obtain ⟨a, vs, g, rfl, sq, rs, sb⟩ := list_at ok r1 hs
      exact call_tuple_of pins s σ H _ us Q I rv ⟨a, vs, rfl, .inl ⟨sq, out_tup rs (nd_sub nd sb) (fun a m => sb.mem m) q⟩⟩
  · obtain ⟨v, rfl, r1⟩ := Reps.one r
    obtain ⟨ds', hs, rfl⟩ := Option.map_eq_some_iff.mp e
    obtain ⟨a, vs, g, rfl, sq, rs, sb⟩ := seq_at ok r1 hs
    exact call_list_of pins s σ H _ us Q I rv ⟨a, vs, rfl, sq, out_lst ok rs (nd_sub nd sb) (fun a m => sb.mem m) q⟩
  · cases e
    obtain ⟨v, rfl, rfl, rfl⟩ := Reps.one r
    exact call_int1 pins s σ H _ us Q I rv (.inl ⟨_, rfl, out_int ok q⟩)
  · cases e
    obtain ⟨v, rfl, rfl, rfl⟩ := Reps.one r
    exact call_int1 pins s σ H _ us Q I rv (.inr ⟨_, rfl, out_int ok q⟩)
  · split at e
    · rename_i n hn
      split at e
      · rename_i hl
        cases e
        obtain ⟨v, rfl, rfl, rfl⟩ := Reps.one r
        exact call_int_str pins s σ H _ us Q I rv ⟨_, _, rfl, hn, hl, out_int ok q⟩
      · cases e
    · cases e
  · split at e
    · rename_i hl
      cases e
      obtain ⟨v, rfl, rfl, rfl⟩ := Reps.one r
      exact call_str_int pins s σ H _ us Q I rv ⟨_, rfl, hl, out_str ok q⟩
    · cases e
  · cases e
    obtain ⟨v, rfl, rfl, rfl⟩ := Reps.one r
    exact SkE.call_str_str pins s σ H _ us Q I rv ⟨_, rfl, out_str ok q⟩
  · cases e
end
end Ev
end
section
set_option Elab.async false
set_option linter.all false
set_option maxRecDepth 100000
namespace Ev
open PySem PySem.Spec PyProof.Rows L2 PySem.SeqAt
abbrev XP := NestedKey × Addr × V
abbrev YP := NestedKey × Addr × Value
def FP (p : XP) (q : YP) : Prop := p.1 = q.1 ∧ p.2.1 = q.2.1 ∧ RelV p.2.2 q.2.2
section
variable {T : Pgm} {H : Hp} {μ : List Addr} {S : Sto}
theorem find_cons {k key : D} {ks : List D} : find (k :: ks) key = if k.eqv key = true then some 0 else (find ks key).map (· + 1) := by
  unfold find
  rw [List.findIdx?_cons]
theorem getK_cons {k key v : D} {ks vs : List D} : getK (k :: ks) (v :: vs) key = if k.eqv key = true then some v else getK ks vs key := by
  unfold getK
  rw [find_cons]
  by_cases h : k.eqv key = true
  · rw [if_pos h, if_pos h]; rfl
  · rw [if_neg h, if_neg h]
    cases find ks key <;> rfl
theorem getN {key : D} (hp : key.pure = true) : ∀ (ks vs : List D) (xs : List XP) (ys : List YP) (fp : List Addr), xs.map (·.1) = ks.map D.nk → (∀ k ∈ ks, k.pure = true) → Paired FP xs ys → Reps T H μ vs (xs.map (·.2.2)) fp →
    (∀ z, getK ks vs key = some z → ∃ v u f, valueAt (pairsH ys) key.nk = some u ∧ RelV v u ∧ Rep T H μ z v f ∧ f.Sublist fp) ∧ (getK ks vs key = none → valueAt (pairsH ys) key.nk = none)
  | [], vs, xs, ys, fp, e, _, pr, r => by
    cases xs with
    | cons _ _ => simp at e
    | nil =>
      cases pr
      exact ⟨fun z hz => by (unfold getK find at hz; simp at hz), fun _ => rfl⟩
  | k :: ks, vs, xs, ys, fp, e, pk, pr, r => by
    cases xs with
    | nil => simp at e
    | cons x xs =>
      cases pr with
      | @cons _ y _ ys f1 pr =>
        cases vs with
        | nil => obtain ⟨h, _⟩ := r; simp at h
        | cons d vs =>
          obtain ⟨v, w, g1, g2, e1, r1, r2, rfl⟩ := r
          rw [List.map_cons] at e1
          obtain ⟨rfl, rfl⟩ := List.cons.inj e1
          rw [List.map_cons, List.map_cons] at e
          obtain ⟨e1, e2⟩ := List.cons.inj e
          have kp := pk k (by simp)
          have hd : k.eqv key = decide (y.1 = key.nk) := by rw [nk_dec kp hp, ← e1, f1.1]
          rw [getK_cons]
          by_cases h : y.1 = key.nk
          · rw [if_pos (by rw [hd]; exact decide_eq_true h)]
            refine ⟨fun z hz => ?_, fun hz => nomatch hz⟩
            cases hz
            refine ⟨x.2.2, y.2.2, g1, ?_, f1.2.2, r1, List.sublist_append_left _ _⟩
            simp [valueAt, pairsH, h]
          · rw [if_neg (by rw [hd]; simpa using h)]
            obtain ⟨i1, i2⟩ := getN hp ks vs xs ys g2 e2 (fun k m => pk k (by simp [m])) pr r2
            have ev : valueAt (pairsH (y :: ys)) key.nk = valueAt (pairsH ys) key.nk := by simp [valueAt, pairsH, h]
            rw [ev]
            refine ⟨fun z hz => ?_, i2⟩
            obtain ⟨v, u, f, h1, h2, h3, h4⟩ := i1 z hz
            exact ⟨v, u, f, h1, h2, h3, h4.trans (List.sublist_append_right _ _)⟩
open Classical in
/-- the entries behind d[k] = v -/
noncomputable def putX (xs : List XP) (k : NestedKey) (b : Addr) (v : V) : List XP := if (xs.any fun x => decide (x.1 = k)) = true then xs.map (fun x => if x.1 = k then (x.1, x.2.1, v) else x) else xs ++ [(k, b, v)]
theorem pr_any {k : NestedKey} : ∀ {xs : List XP} {ys : List YP}, Paired FP xs ys → (xs.any fun x => decide (x.1 = k)) = (atKey ys k).isSome
  | _, _, .nil => rfl
  | _, _, .cons (a := x) (b := y) h t => by
    rw [List.any_cons, pr_any t, h.1]
    by_cases e : y.1 = k
    · simp [atKey, e]
    · simp [atKey, e]
theorem pr_put {k : NestedKey} {v : V} {u : Value} (r : RelV v u) : ∀ {xs : List XP} {ys : List YP}, Paired FP xs ys → Paired FP (xs.map fun x => if x.1 = k then (x.1, x.2.1, v) else x) (ys.map (putAt k u))
  | _, _, .nil => .nil
  | _, _, .cons (a := x) (b := y) h t => by
    rw [List.map_cons, List.map_cons]
    refine .cons ?_ (pr_put r t)
    unfold putAt
    by_cases e : y.1 = k
    · rw [if_pos e, if_pos (h.1.trans e)]; exact ⟨h.1, h.2.1, r⟩
    · rw [if_neg e, if_neg fun z => e (h.1.symm.trans z)]; exact h
theorem pr_snoc {α β : Type} {F : α → β → Prop} {a : α} {b : β} : ∀ {l₁ : List α} {l₂ : List β}, Paired F l₁ l₂ → F a b → Paired F (l₁ ++ [a]) (l₂ ++ [b])
  | _, _, .nil, h => .cons h .nil
  | _, _, .cons h₁ t, h => .cons h₁ (pr_snoc t h)
theorem putX_pr {k : NestedKey} {b : Addr} {v : V} {u : Value} {xs : List XP} {ys : List YP} (r : RelV v u) (pr : Paired FP xs ys) : Paired FP (putX xs k b v) (storedH ys k b u) := by
  unfold putX storedH
  rw [pr_any pr]
  by_cases h : (atKey ys k).isSome = true
  · rw [if_pos h, if_pos h]; exact pr_put r pr
  · rw [if_neg h, if_neg h]; exact pr_snoc pr ⟨rfl, rfl, r⟩
theorem Reps.set' : ∀ (ds : List D) (vs : List V) (k : Nat) (d : D) (v : V), Reps T H μ ds vs [] → Rep T H μ d v [] → Reps T H μ (ds.set k d) (vs.set k v) []
  | [], _, _, _, _, h, _ => by obtain ⟨rfl, _⟩ := h; exact ⟨rfl, rfl⟩
  | x :: ds, _, k, d, v, h, r => by
    obtain ⟨w, us, f1, f2, rfl, h1, h2, e⟩ := h
    obtain ⟨rfl, rfl⟩ := List.append_eq_nil_iff.mp e.symm
    cases k with
    | zero => exact ⟨v, us, [], [], rfl, r, h2, rfl⟩
    | succ k => exact ⟨w, us.set k v, [], [], rfl, h1, Reps.set' ds us k d v h2 r, rfl⟩
theorem putX_some {key : D} {v : V} (hp : key.pure = true) : ∀ (ks : List D) (xs : List XP) (i : Nat), xs.map (·.1) = ks.map D.nk → (∀ k ∈ ks, k.pure = true) → (xs.map (·.1)).Nodup → find ks key = some i →
    (xs.any fun x => decide (x.1 = key.nk)) = true ∧ (xs.map fun x => if x.1 = key.nk then (x.1, x.2.1, v) else x).map (·.2.2) = (xs.map (·.2.2)).set i v
  | [], xs, i, _, _, _, e => by unfold find at e; simp at e
  | k :: ks, [], i, e, _, _, _ => by simp at e
  | k :: ks, x :: xs, i, e, pk, nd, hf => by
    rw [List.map_cons, List.map_cons] at e
    obtain ⟨e1, e2⟩ := List.cons.inj e
    rw [List.map_cons, List.nodup_cons] at nd
    have hd : k.eqv key = decide (x.1 = key.nk) := by rw [nk_dec (pk k (by simp)) hp, e1]
    rw [find_cons, hd] at hf
    by_cases h : x.1 = key.nk
    · rw [if_pos (decide_eq_true h)] at hf
      cases hf
      have id : (xs.map fun y => if y.1 = key.nk then (y.1, y.2.1, v) else y) = xs := by
        conv => rhs; rw [← List.map_id xs]
        refine List.map_congr_left fun y m => ?_
        rw [if_neg fun q => nd.1 (by rw [h, ← q]; exact List.mem_map_of_mem (f := fun y : XP => y.1) m)]; rfl
      rw [List.map_cons, if_pos h, id]
      exact ⟨by simp [h], by simp⟩
    · rw [if_neg (by simpa using h)] at hf
      obtain ⟨j, h1, rfl⟩ := Option.map_eq_some_iff.mp hf
      obtain ⟨a, b⟩ := putX_some (v := v) hp ks xs j e2 (fun k m => pk k (by simp [m])) nd.2 h1
      rw [List.map_cons, if_neg h]
      refine ⟨by rw [List.any_cons, a, Bool.or_true], ?_⟩
      rw [List.map_cons, b]; rfl
theorem putX_none {key : D} (hp : key.pure = true) : ∀ (ks : List D) (xs : List XP), xs.map (·.1) = ks.map D.nk → (∀ k ∈ ks, k.pure = true) → find ks key = none → (xs.any fun x => decide (x.1 = key.nk)) = false
  | [], [], _, _, _ => rfl
  | [], _ :: _, e, _, _ => by simp at e
  | k :: ks, [], e, _, _ => by simp at e
  | k :: ks, x :: xs, e, pk, hf => by
    rw [List.map_cons, List.map_cons] at e
    obtain ⟨e1, e2⟩ := List.cons.inj e
    have hd : k.eqv key = decide (x.1 = key.nk) := by rw [nk_dec (pk k (by simp)) hp, e1]
    rw [find_cons, hd] at hf
    by_cases h : x.1 = key.nk
    · rw [if_pos (decide_eq_true h)] at hf; cases hf
    · rw [if_neg (by simpa using h)] at hf
      rw [List.any_cons, putX_none hp ks xs e2 (fun k m => pk k (by simp [m])) (by simpa using hf)]
      simp [h]
theorem put_nd {key z : D} {v : V} {b : Addr} {ks vs : List D} {xs : List XP} (hk : tkeyOk key = true) (e : xs.map (·.1) = ks.map D.nk) (pk : ∀ k ∈ ks, tkeyOk k = true) (nd : (xs.map (·.1)).Nodup)
    (rk : Reps T H μ ks (xs.map fun x => .ref x.2.1) []) (r : Reps T H μ vs (xs.map (·.2.2)) []) (rb : Rep T H μ key (.ref b) []) (rz : Rep T H μ z v []) :
    (putX xs key.nk b v).map (·.1) = (putK ks vs key z).1.map D.nk ∧ (∀ k ∈ (putK ks vs key z).1, tkeyOk k = true) ∧ Reps T H μ (putK ks vs key z).1 ((putX xs key.nk b v).map fun x => .ref x.2.1) [] ∧ Reps T H μ (putK ks vs key z).2 ((putX xs key.nk b v).map (·.2.2)) [] := by
  have hp := (tkey hk).1
  have pp : ∀ k ∈ ks, k.pure = true := fun k m => (tkey (pk k m)).1
  cases hf : find ks key with
  | none =>
    have ea := putX_none hp ks xs e pp hf
    have e1 : putX xs key.nk b v = xs ++ [(key.nk, b, v)] := by unfold putX; rw [if_neg (by rw [ea]; exact Bool.false_ne_true)]
    have e2 : putK ks vs key z = (ks ++ [key], vs ++ [z]) := by unfold putK; rw [hf]
    rw [e1, e2]
    refine ⟨by simp [e], fun k m => ?_, ?_, ?_⟩
    · rcases List.mem_append.mp m with m | m
      · exact pk k m
      · rw [show k = key by simpa using m]; exact hk
    · have := Reps.append _ _ _ _ _ _ rk (show Reps T H μ [key] [.ref b] [] from ⟨_, [], [], [], rfl, rb, ⟨rfl, rfl⟩, rfl⟩)
      simpa using this
    · have := Reps.append _ _ _ _ _ _ r (show Reps T H μ [z] [v] [] from ⟨_, [], [], [], rfl, rz, ⟨rfl, rfl⟩, rfl⟩)
      simpa using this
  | some i =>
    obtain ⟨ea, eb⟩ := putX_some (v := v) hp ks xs i e pp nd hf
    have e1 : putX xs key.nk b v = xs.map fun x => if x.1 = key.nk then (x.1, x.2.1, v) else x := by unfold putX; rw [if_pos ea]
    have e2 : putK ks vs key z = (ks, vs.set i z) := by unfold putK; rw [hf]
    have m1 : (xs.map fun x => if x.1 = key.nk then (x.1, x.2.1, v) else x).map (·.1) = xs.map (·.1) := by
      rw [List.map_map]; refine List.map_congr_left fun x _ => ?_
      show (if x.1 = key.nk then (x.1, x.2.1, v) else x).1 = x.1
      split <;> rfl
    have m2 : (xs.map fun x => if x.1 = key.nk then (x.1, x.2.1, v) else x).map (fun x => V.ref x.2.1) = xs.map (fun x => V.ref x.2.1) := by
      rw [List.map_map]; refine List.map_congr_left fun x _ => ?_
      show V.ref (if x.1 = key.nk then (x.1, x.2.1, v) else x).2.1 = V.ref x.2.1
      split <;> rfl
    rw [e1, e2]
    exact ⟨by rw [m1]; exact e, pk, by rw [m2]; exact rk, by rw [eb]; exact Reps.set' _ _ _ _ _ r rz⟩
theorem putX_len {k : NestedKey} {b : Addr} {v : V} {xs : List XP} : (putX xs k b v).length ≤ xs.length + 1 := by
  unfold putX
  split <;> simp
end
section
variable {X : Cx} {C : Nat → Addr} {pins : List (Addr × Obj)} {σ : Slots} {H : Hp} {s : Shared} {μ : List Addr} {S : Sto}
/-- what a dict with tuple keys is in the heap -/
def NdIn (X : Cx) (s : Shared) (a : Addr) (ks : List D) (xs : List XP) : Prop :=
  (a == sysModules) = false ∧ xs.length ≤ sizeLine ∧ xs.map (·.1) = ks.map D.nk ∧ (∀ k ∈ ks, tkeyOk k = true) ∧ ∃ ys : List YP, Paired FP xs ys ∧ s.heap.DictOfH (nestedKind X.prog X.w) a ys
theorem NdAt.in_ (I : Inv X pins σ H s) {a : Addr} {ks : List D} {xs : List XP} (q : NdAt X.w H a ks xs) (rk : Reps (tOf X C) H μ ks (xs.map fun x => .ref x.2.1) []) : NdIn X s a ks xs := by
  obtain ⟨h1, h2, ys, h3, h4, h5⟩ := nd_heap I q rk
  exact ⟨h1, h2, q.2.1, q.2.2, ys, h3, h4⟩
theorem d0_in (I : Inv X pins σ H s) {a : Addr} {us : List V} (q : DictAt H a [] us) : NdIn X s a [] [] ∧ us = [] := by
  obtain ⟨kvs, h1, e1, rfl, _⟩ := q
  have : kvs = [] := by simpa using e1.symm
  subst this
  obtain ⟨_, hs, vs, rel, o, es, ep, g1, g2, g3, g4, g5, g6⟩ := dk_of I.hok h1
  cases rel
  refine ⟨⟨hs, by simp, rfl, by simp, [], .nil, o, es, ep, g1, g2, g3, ?_, by simp, by simp⟩, rfl⟩
  have := g5.length
  have hl : es.toList.length = 0 := by simpa using this
  simpa using List.length_eq_zero_iff.mp hl
theorem nd_at (I : Inv X pins σ H s) (ok : StOk (tOf X C) H μ S) {d : D} {v : V} {fp : List Addr} {ks vs : List D} (r : Rep (tOf X C) H μ d v fp) (e : ndOf S d = some (ks, vs)) :
    ∃ a xs g, v = .ref a ∧ NdIn X s a ks xs ∧ Reps (tOf X C) H μ vs (xs.map (·.2.2)) g ∧ g.Sublist fp := by
  unfold ndOf at e
  split at e
  · cases e
    obtain ⟨a, xs, g, rfl, q, rk, rs, rfl⟩ := r
    exact ⟨a, xs, g, rfl, q.in_ I rk, rs, List.sublist_append_left _ _⟩
  · cases e
    obtain ⟨a, us, g, rfl, q, rs, rfl⟩ := r
    obtain ⟨h1, rfl⟩ := d0_in I q
    exact ⟨a, [], g, rfl, h1, rs, List.sublist_append_left _ _⟩
  · rename_i n
    obtain ⟨a, rfl, hm, rfl⟩ := r
    split at e
    · rename_i ks' vs' hS
      cases e
      obtain ⟨xs, q, rk, rs⟩ := ok.at_ n _ a hS hm
      exact ⟨a, xs, [], rfl, q.in_ I rk, rs, List.Sublist.refl _⟩
    · rename_i hS
      cases e
      obtain ⟨us, q, rs⟩ := ok.at_ n _ a hS hm
      obtain ⟨h1, rfl⟩ := d0_in I q
      exact ⟨a, [], [], rfl, h1, rs, List.Sublist.refl _⟩
    · cases e
  · cases e
mutual
theorem pure_settled' : ∀ d : D, d.pure = true → d.settled = true
  | .non, _ => rfl
  | .bl _, _ => rfl
  | .int _, _ => rfl
  | .str _, _ => rfl
  | .tup ds, h => pures_settled' ds h
  | .fz _, h => nomatch h
  | .ref _, h => nomatch h
  | .exc _, h => nomatch h
  | .lst _, h => nomatch h
  | .dct _ _, h => nomatch h
  | .nd _ _, h => nomatch h
theorem pures_settled' : ∀ ds : List D, pures ds = true → settleds ds = true
  | [], _ => rfl
  | d :: ds, h => by
    obtain ⟨s1, s2⟩ := Bool.and_eq_true_iff.mp (show (d.pure && pures ds) = true from h)
    show (d.settled && settleds ds) = true
    rw [pure_settled' d s1, pures_settled' ds s2]; rfl
end
theorem tkey_at (I : Inv X pins σ H s) {k : D} {v : V} {fp : List Addr} {u : Value} (r : Rep (tOf X C) H μ k v fp) (rv : RelV v u) (hk : tkeyOk k = true) : ∃ b, v = .ref b ∧ u = .ref b ∧ fp = [] ∧ (nestedKind X.prog X.w).is s.heap k.nk b := by
  obtain ⟨p1, p2, ds, rfl⟩ := tkey hk
  have t := tree_pure I _ v fp u r rv p1
  have hfp : fp = [] := Rep.settled _ v fp r (pure_settled' _ p1)
  obtain ⟨b, vs, rfl, _⟩ := r
  cases (show u = Value.ref b from rv)
  exact ⟨b, rfl, rfl, hfp, nk_is _ _ t p1, by rw [nk_depth _ p1]; exact p2⟩
theorem nd_get {A : Around} {E : Value → Shared → Prop} {Q : Value → Shared → Prop} (hu : A.units + 20 < cLine) (I : Inv X pins σ H s) {a b : Addr} {ks vs : List D} {xs : List XP} {g : List Addr} {k : D} {x : V} {r : Value} (n : NdIn X s a ks xs) (rs : Reps (tOf X C) H μ vs (xs.map (·.2.2)) g)
    (hk : tkeyOk k = true) (kb : (nestedKind X.prog X.w).is s.heap k.nk b) (rd : RelV x r)
    (h1 : ∀ z v f, getK ks vs k = some z → Rep (tOf X C) H μ z v f → f.Sublist g → ∀ u s', RelV v u → Inv X pins σ H s' → Q u s') (h2 : getK ks vs k = none → ∀ s', Inv X pins σ H s' → Q r s') :
    wpAny (model X.prog X.w) A (call (.builtin "dict.get") [.ref a, .ref b, r]) Q E s := by
  obtain ⟨hs, hl, e, pk, ys, pr, dd⟩ := n
  obtain ⟨g1, g2⟩ := getN (tkey hk).1 ks vs xs ys g e (fun k m => (tkey (pk k m)).1) pr rs
  refine getOr_keyed (knd := nestedKind X.prog X.w) (show A.units + 1 + 8 < cLine by omega) kb hs ⟨ys, dd, rfl⟩ ?_
  cases hz : getK ks vs k with
  | none => rw [g2 hz]; exact h2 hz _ (I.tok _)
  | some z =>
    obtain ⟨v, u, f, q1, q2, q3, q4⟩ := g1 z hz
    rw [q1]
    exact h1 z v f hz q3 q4 u _ q2 (I.tok _)
theorem nd_set {A : Around} {E : Value → Shared → Prop} {Q : Unit → Shared → Prop} (hu : A.units + 20 < cLine) (I : Inv X pins σ H s) {a b : Addr} {ks : List D} {xs : List XP} {k : D} {v : V} {u : Value} (n : NdIn X s a ks xs)
    (hl : ks.length < 16777216) (mu : Mut (H a)) (hk : tkeyOk k = true) (kb : (nestedKind X.prog X.w).is s.heap k.nk b) (rv : RelV v u)
    (h : (xs.map (·.1)).Nodup → ∀ s', Inv X pins σ (upd H a (ndHO X.w a (putX xs k.nk b v))) s' → Q () s') : wpAny (model X.prog X.w) A (setItem (.ref a) (.ref b) u) Q E s := by
  obtain ⟨hs, hz, e, pk, ys, pr, dd⟩ := n
  have hxl : xs.length = ks.length := by simpa using congrArg List.length e
  have nd : (xs.map (·.1)).Nodup := by
    rw [pr_map_eq pr (g := fun y => y.1) fun _ _ z => z.1]
    obtain ⟨_, _, _, _, _, _, _, _, n⟩ := dd; exact n
  have hy : ys.length ≤ sizeLine := by
    have := congrArg List.length (pr_map_eq pr (f := fun x => x.1) (g := fun y => y.1) fun _ _ z => z.1)
    simp at this; omega
  refine wpAny_setItem_heap (knd := nestedKind X.prog X.w) (hsz := hy) (show A.units + 1 + 8 < cLine by omega) kb dd fun h' dd' sb => h nd _ ?_
  obtain ⟨q, es, ep, hq, h2, h3, h4, _, h5⟩ := dd'
  have hlen : (putX xs k.nk b v).length ≤ sizeLine := by
    have := putX_len (k := k.nk) (b := b) (v := v) (xs := xs)
    have hsl : (16777216 : Nat) ≤ sizeLine := by decide
    omega
  refine d_write I mu sb ⟨q, hq⟩ ⟨⟨hs, hlen, _, putX_pr rv pr, q, es, ep, hq, h2, h3, h4, h5⟩, ⟨q, hq⟩, fun h1 h2 p st => ?_⟩
  obtain ⟨p1, p2, zs, p3, o, es, ep, q1, q2⟩ := p
  exact ⟨p1, p2, zs, p3, o, es, ep, st _ q1, q2⟩
end
end Ev
end
section
set_option Elab.async false
set_option linter.all false
set_option maxRecDepth 100000
namespace Ev
open PySem PySem.Spec PyProof.Rows L2 PySem.SeqAt
/-- from (H, μ) on, own things (at ow) may go into the store -/
structure StpO (ow : List Addr) (H : Hp) (μ : List Addr) (H' : Hp) (μ' : List Addr) : Prop where
  ext : ∃ e, μ' = μ ++ e ∧ ∀ a ∈ e, a ∈ ow ∨ H a = none
  fr : ∀ b o, H b = some o → b ∉ μ → b ∉ ow → H' b = some o
  dom : ∀ b o, H b = some o → ∃ o', H' b = some o'
theorem StpO.of {H0 H H' : Hp} {μ0 μ μ' ow : List Addr} (s : Stp H0 μ0 H μ) (n : ∀ a ∈ ow, H0 a = none) (d : ∀ a ∈ ow, a ∉ μ) (t : StpO ow H μ H' μ') : Stp H0 μ0 H' μ' := by
  refine ⟨?_, fun b o h1 h2 => ?_, fun b o h => ?_⟩
  · obtain ⟨e, rfl, f⟩ := s.ext
    obtain ⟨e', rfl, f'⟩ := t.ext
    refine ⟨e ++ e', by simp, fun a m => ?_⟩
    rcases List.mem_append.mp m with m | m
    · exact f a m
    · rcases f' a m with m | m
      · exact n a m
      · exact s.free m
  · refine t.fr b o (s.fr b o h1 h2) (fun m => ?_) fun m => ?_
    · rw [s.new m h2] at h1; cases h1
    · rw [n b m] at h1; cases h1
  · obtain ⟨o', e⟩ := s.dom b o h
    exact t.dom b o' e
abbrev OutM (T : Pgm) (H : Hp) (μ ow : List Addr) (S' : Sto) (z : D) (Q : VK) : Prop :=
  ∀ v H' μ' fp, StpO ow H μ H' μ' → StOk T H' μ' S' → Rep T H' μ' z v fp → (μ' ++ fp).Nodup → (∀ a ∈ fp, a ∈ ow ∨ H a = none) → Q v H'
def rMth (T : Pgm) (m : Mth) : V → List V → Hp → VK → Prop := fun x xs H Q => ∃ d ds S μ f1 f2 z S', Rep T H μ d x f1 ∧ Reps T H μ ds xs f2 ∧ StOk T H μ S ∧ (μ ++ (f1 ++ f2)).Nodup ∧ mthE m d ds S = some (z, S') ∧ OutM T H μ (f1 ++ f2) S' z Q
def mTy : Mth → String
  | .append => "list"
  | .pop => "list"
  | .extend => "list"
  | .join => "str"
  | .upper => "str"
  | .get => "dict"
  | .split => "str"
  | .startswith => "str"
  | .partition => "str"
def mId : Mth → String
  | .append => "list.append"
  | .pop => "list.pop"
  | .extend => "list.extend"
  | .join => "str.join"
  | .upper => "str.upper"
  | .get => "dict.get"
  | .split => "str.split"
  | .startswith => "str.startswith"
  | .partition => "str.partition"
def mNm : Mth → Str
  | .append => "append"
  | .pop => "pop"
  | .extend => "extend"
  | .join => "join"
  | .upper => "upper"
  | .get => "get"
  | .split => "split"
  | .startswith => "startswith"
  | .partition => "partition"
section
variable {T : Pgm} {H : Hp} {μ : List Addr} {S : Sto}
theorem StpO.sm {H' : Hp} {ow : List Addr} (s : Same H H') : StpO ow H μ H' μ := ⟨⟨[], by simp, by simp⟩, fun b o h _ _ => s b o h, fun b o h => ⟨o, s b o h⟩⟩
theorem StpO.refl {ow : List Addr} : StpO ow H μ H μ := ⟨⟨[], by simp, by simp⟩, fun _ _ h _ _ => h, fun _ o h => ⟨o, h⟩⟩
/-- an object of the store is written, own things come in -/
theorem StpO.put {ow e : List Addr} {a : Addr} {o : HO} (m : a ∈ μ) (he : ∀ b ∈ e, b ∈ ow) : StpO ow H μ (upd H a o) (μ ++ e) := by
  have s : Stp H μ (upd H a o) μ := Stp.put m
  exact ⟨⟨e, rfl, fun b hb => .inl (he b hb)⟩, fun b o h n _ => s.fr b o h n, s.dom⟩
/-- the list at object n becomes ys -/
theorem put_list {n : Nat} {a : Addr} {ds' : List D} {ys : List V} (ok : StOk T H μ S) (hm : μ[n]? = some a) (r : Reps T H μ ds' ys []) : StOk T (upd H a (.lst ys)) μ (S.set n (.lst ds')) := by
  have ma : a ∈ μ := List.mem_of_getElem? hm
  have s : Stp H μ (upd H a (.lst ys)) μ := Stp.put ma
  refine ok.put hm s ?_ ⟨ys, upd_same, Reps.keep ok.kinds s _ _ _ r (by simp)⟩
  intro b hb
  have : b = a := by simpa using hb
  subst this; exact .inl ⟨ys, upd_same⟩
end
theorem list_extend_tuple_any (l : Addr) (items : Array Value) (n : Nat) (b : Addr) (dd : Option Addr) (sl : Array (Option Value)) (items2 : Array Value) (n2 : Nat) (hs0 : ¬(!items.isEmpty && Builtin.List.listTooLong (items.size + items2.size)) = true) (hs1 : items.size ≤ sizeLine) (hs2 : items.size + items2.size ≤ sizeLine + 1) :
    Meets (Builtin.«list.extend» ⟨[.ref l, .ref b], []⟩) (fun _ R s => s.heap.get? l = some { cls := .type "list", dict := none, data := .seq items n, slots := #[] } ∧ s.heap.get? b = some { cls := .type "tuple", dict := dd, data := .seq items2 n2, slots := sl } ∧ R (.ok (.ret Value.none)) { s with heap := s.heap.update l (Obj.mapSeq fun x => x ++ items2), toks := s.toks }) :=
  .of_wp fun prog w A R s h => by
    obtain ⟨hp, g, d, tk, os⟩ := s; obtain ⟨hl, hb, h⟩ := h; have f1 := AutoSeq1.idx_int; have f2 := AutoSeq1.sub_tuple_tuple; have f3 := AutoSeq1.sub_list_list; have f4 := AutoSeq1.sub_tuple_list; have f5 := AutoSeq1.sub_list_tuple;
    have hz' : (items ++ items2).size ≤ sizeLine + 1 := by rw [Array.size_append]; exact hs2
    wp_walk using (wpAny_updateSeq hl rfl (hz := hs1) (_hz' := hz')), wpAny_loadPart' hl, wpAny_loadPart' hb; exact ⟨_, rfl, h⟩
section
variable {X : Cx} {C : Nat → Addr}
theorem mt_extendT : MtR X "list.extend" (fun x vs H Q => ∃ l b xs zs, x = .ref l ∧ vs = [.ref b] ∧ H l = some (.lst xs) ∧ SqT X.K H b zs ∧ xs.length + zs.length ≤ sizeLine ∧ Q .non (upd H l (.lst (xs ++ zs)))) := by
  intro pins s σ H x vs v us Q I rx rv h
  obtain ⟨l, b, xs, zs, rfl, rfl, hH, hB, hz, q⟩ := h
  cases rx
  obtain ⟨u, rfl, ru⟩ := rv.one
  cases ru
  obtain ⟨z, its, n, r, hl, e⟩ := I.lstM hH
  obtain ⟨its2, r2, ⟨⟨oc, od, dt, osl⟩, e2, hc2, n2, hd2⟩, _⟩ := I.tuple hB
  dsimp only at hc2 hd2
  subst hc2 hd2
  have hl2 := r2.length
  have hsz : its.toArray.size + its2.toArray.size ≤ sizeLine := by rw [List.size_toArray, List.size_toArray]; omega
  have hlong : ¬ (!its.toArray.isEmpty && Builtin.List.listTooLong (its.toArray.size + its2.toArray.size)) = true := by
    rw [notLongL hsz, Bool.and_false]
    exact Bool.false_ne_true
  refine call_meets F.slot_list_extend ⟨_, e, rfl⟩ F.entry_list_extend (F.args_list_extend_2 _ _)
    (list_extend_tuple_any l its.toArray n b _ _ its2.toArray n2 hlong (by rw [List.size_toArray]; omega) (by omega)) ⟨e, e2, ?_⟩
  refine ⟨.non, _, I.lset (its' := its ++ its2) hH e (by simp) (r.append r2) ?_, rfl, q⟩
  rw [List.length_append]
  omega
theorem mt_getN (hu : X.A.units + 20 < cLine) {s : Shared} {σ : Slots} {H : Hp} {pins : List (Addr × Obj)} {Q : VK} {x : V} {xs : List V} {v : Value} {us : List Value} (I : Inv X pins σ H s) (rx : RelV x v) (rv : Vals xs us) {d k w : D} {S : Sto} {μ f1 f2 : List Addr} {ks vs : List D}
    (r1 : Rep (tOf X C) H μ d x f1) (r2 : Reps (tOf X C) H μ [k, w] xs f2) (ok : StOk (tOf X C) H μ S) (nd : (μ ++ (f1 ++ f2)).Nodup) (hd : ndOf S d = some (ks, vs)) (hk : tkeyOk k = true)
    (q : ∀ v H' μ' fp, StpO (f1 ++ f2) H μ H' μ' → StOk (tOf X C) H' μ' S → Rep (tOf X C) H' μ' ((getK ks vs k).getD w) v fp → (μ' ++ fp).Nodup → (∀ a ∈ fp, a ∈ f1 ++ f2 ∨ H a = none) → Q v H') :
    wpAny (model X.prog X.w) X.A (call (.builtin "dict.get") (v :: us)) (EP X pins σ Q) X.xe s := by
  obtain ⟨y, y2, g1, g2, rfl, q1, q2, rfl⟩ := Reps.two r2
  obtain ⟨a, zs, g, rfl, n, rs, sb⟩ := nd_at I ok r1 hd
  cases rx
  cases rv with
  | cons ra rr =>
    cases rr with
    | cons rb rr =>
      cases rr
      obtain ⟨b, rfl, rfl, rfl, kb⟩ := tkey_at I q1 ra hk
      refine nd_get hu I n rs hk kb rb (fun z v f e rz sf u s' ru I' => ⟨v, H, I', ru, ?_⟩) fun e s' I' => ⟨y2, H, I', rb, ?_⟩
      · rw [e] at q
        have h4 : f.Sublist (f1 ++ ([] ++ g2)) := sub_l (sf.trans sb)
        exact q v H μ f StpO.refl ok rz (nd_sub nd h4) fun a m => .inl (h4.mem m)
      · rw [e] at q
        have h4 : g2.Sublist (f1 ++ ([] ++ g2)) := (List.sublist_append_right _ _).trans (List.sublist_append_right _ _)
        exact q y2 H μ g2 StpO.refl ok q2 (nd_sub nd h4) fun a m => .inl (h4.mem m)
theorem mt_d (hu : X.A.units + 20 < cLine) : ∀ m : Mth, MtR X (mId m) (rMth (tOf X C) m) := by
  intro m pins s σ H x xs v us Q I rx rv ⟨d, ds, S, μ, f1, f2, z, S', r1, r2, ok, nd, e, q⟩
  unfold mthE at e
  split at e
  · rename_i n w
    split at e
    · rename_i ds' hS
      split at e
      · rename_i hl
        cases e
        obtain ⟨a, rfl, hm, rfl⟩ := r1
        obtain ⟨y, rfl, ry⟩ := Reps.one r2
        obtain ⟨vs, ha, rs⟩ := ok.at_ n _ a hS hm
        have nd' : (μ ++ f2).Nodup := by simpa using nd
        obtain ⟨g1, g2⟩ := settle_ok w y f2 μ S ry ok nd'
        have kf := Rep.kinds w y f2 ry
        refine mt_append pins s σ H _ _ v us Q I rx rv ⟨a, vs, y, rfl, rfl, ha, by rw [Reps.len _ _ _ rs]; exact hl, ?_⟩
        have hm' : (μ ++ f2)[n]? = some a := widen_g n a hm
        have ok' := put_list g2 hm' (Reps.append _ _ _ _ _ _ (Reps.widen kf _ _ _ rs) (show Reps (tOf X C) H (μ ++ f2) [(settle w S).1] [y] [] from ⟨y, [], [], [], rfl, g1, ⟨rfl, rfl⟩, rfl⟩))
        exact q _ _ _ [] (StpO.put (List.mem_of_getElem? hm) (fun b hb => by simpa using hb)) ok' ⟨rfl, rfl⟩ (by simpa using ok'.nd) (by simp)
      · cases e
    · cases e
  · rename_i n
    split at e
    · rename_i ds' hS
      split at e
      · rename_i d' hd
        cases e
        obtain ⟨a, rfl, hm, rfl⟩ := r1
        obtain ⟨rfl, rfl⟩ := r2
        obtain ⟨vs, ha, rs⟩ := ok.at_ n _ a hS hm
        have hl := Reps.len _ _ _ rs
        rw [List.getLast?_eq_getElem?] at hd
        obtain ⟨y, f, h1, h2, h3⟩ := Reps.get _ _ _ _ _ rs hd
        have hf : f = [] := List.sublist_nil.mp h3
        subst hf
        refine mt_pop pins s σ H _ _ v us Q I rx rv ⟨a, vs, y, rfl, rfl, ha, by rw [hl]; exact h1, ?_⟩
        obtain ⟨g, g1, g2⟩ := Reps.take (ds'.length - 1) _ _ _ rs
        have hg : g = [] := List.sublist_nil.mp g2
        subst hg
        have e1 : vs.dropLast = vs.take (ds'.length - 1) := by rw [List.dropLast_eq_take, hl]
        have e2 : ds'.dropLast = ds'.take (ds'.length - 1) := by rw [List.dropLast_eq_take]
        rw [e1]
        rw [e2] at q
        have ok' := put_list ok hm g1
        have st : StpO ([] ++ []) H μ (upd H a (.lst (vs.take (ds'.length - 1)))) (μ ++ []) := StpO.put (List.mem_of_getElem? hm) (by simp)
        rw [List.append_nil μ] at st
        have s1 : Stp H μ (upd H a (.lst (vs.take (ds'.length - 1)))) μ := Stp.put (List.mem_of_getElem? hm)
        exact q _ _ μ [] st ok' (Rep.keep ok.kinds s1 _ _ _ h2 (by simp)) (by simpa using ok'.nd) (by simp)
      · cases e
    · cases e
  · rename_i n es
    split at e
    · rename_i ds' hS
      split at e
      · rename_i hl
        cases e
        obtain ⟨a, rfl, hm, rfl⟩ := r1
        obtain ⟨y, rfl, p, zs, rfl, sq, ry⟩ := Reps.one r2
        obtain ⟨vs, ha, rs⟩ := ok.at_ n _ a hS hm
        have nd' : (μ ++ f2).Nodup := by simpa using nd
        obtain ⟨g1, g2⟩ := settles_ok es zs f2 μ S ry ok nd'
        have kf := Reps.kinds es zs f2 ry
        refine mt_extendT pins s σ H _ _ v us Q I rx rv ⟨a, p, vs, zs, rfl, rfl, ha, sq, by rw [Reps.len _ _ _ rs, Reps.len _ _ _ ry]; exact of_decide_eq_true hl, ?_⟩
        have hm' : (μ ++ f2)[n]? = some a := widen_g n a hm
        have ok' := put_list g2 hm' (Reps.append _ _ _ _ _ _ (Reps.widen kf _ _ _ rs) g1)
        exact q _ _ _ [] (StpO.put (List.mem_of_getElem? hm) (fun b hb => by simpa using hb)) ok' ⟨rfl, rfl⟩ (by simpa using ok'.nd) (by simp)
      · cases e
    · cases e
  · rename_i x' w
    split at e
    · rename_i ys hy
      split at e
      · rename_i hl
        cases e
        obtain ⟨rfl, rfl⟩ := r1
        obtain ⟨y, rfl, ry⟩ := Reps.one r2
        obtain ⟨ds', e2, e3⟩ := Option.bind_eq_some_iff.mp hy
        obtain ⟨a, vs, g, rfl, sq, rs, _⟩ := list_at ok ry e2
        have ei := Reps.strs _ _ _ _ rs e3
        subst ei
        exact mt_join pins s σ H _ _ v us Q I rx rv ⟨x', a, ys, rfl, rfl, .inl sq, of_decide_eq_true hl, q _ H μ [] StpO.refl ok ⟨rfl, rfl⟩ (by simpa using ok.nd) (by simp)⟩
      · cases e
    · cases e
  · split at e
    · rename_i hl
      cases e
      obtain ⟨rfl, rfl⟩ := r1
      obtain ⟨rfl, rfl⟩ := r2
      exact mt_upper pins s σ H _ _ v us Q I rx rv ⟨_, rfl, rfl, hl, q _ H μ [] StpO.refl ok ⟨rfl, rfl⟩ (by simpa using ok.nd) (by simp)⟩
    · cases e
  · rename_i d' k w
    split at e
    · rename_i ks vs' hd
      split at e
      · rename_i hk
        cases e
        obtain ⟨y, y2, g1, g2, rfl, q1, q2, rfl⟩ := Reps.two r2
        obtain ⟨key, rfl, rfl⟩ := keyV q1 hk
        obtain ⟨a, us', g, rfl, ⟨kvs, ha, rfl, rfl, _⟩, rs, sb⟩ := dict_at ok r1 hd
        cases rx
        cases rv with
        | cons ra rr =>
          cases rr with
          | cons rb rr =>
            cases rr
            refine d_get2 (by omega) I (DGet.k ha) ra rb fun w' s' I' rw' => ⟨_, H, I', rw', ?_⟩
            cases hv : getK (kvs.map fun p => keyD p.1) vs' (keyD key) with
            | some zz =>
              obtain ⟨u, f, h1, h2, h3⟩ := getK_val key kvs vs' g zz rs hv
              rw [hv] at q
              rw [h1]
              have h4 : f.Sublist (f1 ++ (g1 ++ g2)) := sub_l (h3.trans sb)
              exact q u H μ f StpO.refl ok h2 (nd_sub nd h4) fun a m => .inl (h4.mem m)
            | none =>
              rw [hv] at q
              have e1 : valV kvs key = none := by
                cases hvv : valV kvs key with
                | none => rfl
                | some uu =>
                  exfalso
                  have e2 : (find (kvs.map fun p => keyD p.1) (keyD key)).isSome = true := by rw [find_key, findIdx_val, hvv]; rfl
                  obtain ⟨i, hi⟩ := Option.isSome_iff_exists.mp e2
                  unfold getK at hv
                  rw [hi] at hv
                  have hi' := hi
                  rw [find_key] at hi'
                  have hlt : i < kvs.length := (List.findIdx?_eq_some_iff_findIdx_eq.mp hi').1
                  have hl := Reps.len _ _ _ rs
                  rw [List.length_map] at hl
                  have hv' : vs'[i]? = none := hv
                  rw [List.getElem?_eq_none_iff] at hv'
                  omega
              rw [e1]
              have h4 : g2.Sublist (f1 ++ (g1 ++ g2)) := (List.sublist_append_right _ _).trans (List.sublist_append_right _ _)
              exact q y2 H μ g2 StpO.refl ok q2 (nd_sub nd h4) fun a m => .inl (h4.mem m)
      · split at e
        · rename_i ks vs hn
          split at e
          · rename_i hk
            cases e
            exact mt_getN hu I rx rv r1 r2 ok nd hn hk q
          · cases e
        · cases e
    · split at e
      · rename_i ks vs hn
        split at e
        · rename_i hk
          cases e
          exact mt_getN hu I rx rv r1 r2 ok nd hn hk q
        · cases e
      · cases e
  · rename_i x' y'
    split at e
    · rename_i hl
      cases e
      obtain ⟨rfl, rfl⟩ := r1
      obtain ⟨w, rfl, rfl, rfl⟩ := Reps.one r2
      refine mt_split pins s σ H _ _ v us Q I rx rv ⟨_, _, rfl, rfl, hl.1, hl.2, fun p np => ?_⟩
      have sm : Same H (upd H p (.lst ((Txt.split x' y').map V.str))) := Same.upd np
      refine q (.ref p) _ μ [p] (StpO.sm sm) (StOk.same sm ok) ⟨p, _, [], rfl, upd_same, reps_strs _ _ _ _, rfl⟩ ?_ (fun a m => .inr (by
        have : a = p := by simpa using m
        subst this; exact np))
      refine List.nodup_append.mpr ⟨ok.nd, by simp, fun a ha b hb z => ?_⟩
      have hb' : b = p := by simpa using hb
      subst hb'; subst z
      rcases ok.kinds a ha with ⟨_, z⟩ | ⟨_, z⟩ | ⟨_, z⟩ <;> (rw [np] at z; cases z)
    · cases e
  · cases e
    obtain ⟨rfl, rfl⟩ := r1
    obtain ⟨w, rfl, rfl, rfl⟩ := Reps.one r2
    exact mt_startswith pins s σ H _ _ v us Q I rx rv ⟨_, _, rfl, rfl, q _ H μ [] StpO.refl ok ⟨rfl, rfl⟩ (by simpa using ok.nd) (by simp)⟩
  · rename_i x' y'
    split at e
    · rename_i hl
      cases e
      obtain ⟨rfl, rfl⟩ := r1
      obtain ⟨w, rfl, rfl, rfl⟩ := Reps.one r2
      refine mt_partition pins s σ H _ _ v us Q I rx rv ⟨_, _, rfl, rfl, hl.1, hl.2, fun p np => ?_⟩
      have sm : Same H (upd H p (.tup [.str (Txt.partition x' y').1, .str (Txt.partition x' y').2.1, .str (Txt.partition x' y').2.2])) := Same.upd np
      exact q (.ref p) _ μ [] (StpO.sm sm) (StOk.same sm ok) ⟨p, _, rfl, .inl (.inl upd_same), reps_strs _ _ _ [(Txt.partition x' y').1, (Txt.partition x' y').2.1, (Txt.partition x' y').2.2]⟩ (by simpa using ok.nd) (by simp)
    · cases e
  · cases e
end
end Ev
end
section
set_option Elab.async false
set_option linter.all false
set_option maxRecDepth 100000
namespace Ev
open PySem PySem.Spec PyProof.Rows L2 PySem.SeqAt
/-! ### what is walked -/
/-- the iterator J walks the items ds; G i H μ: how things lie ahead of turn i; P: what is said of the objects that items hold alone -/
structure Walk (T : Pgm) (P : Addr → Prop) (J : It) (ds : List D) (lk : Option (Nat × List D)) (G : Nat → Hp → List Addr → Prop) : Prop where
  item : ∀ (i : Nat) (d : D) (H : Hp) (μ : List Addr) (S : Sto), ds[i]? = some d → G i H μ → StOk T H μ S → stays lk S → J.go i H ∧ ∀ v H1, J.yld i H v H1 →
    Same H H1 ∧ ∃ fp, Rep T H1 μ d v fp ∧ (μ ++ fp).Nodup ∧ (∀ a ∈ fp, P a) ∧ G (i + 1) H1 (μ ++ fp)
  stop : ∀ (i : Nat) (H : Hp) (μ : List Addr) (S : Sto), ds.length ≤ i → G i H μ → StOk T H μ S → stays lk S → J.stop i H
  keep : ∀ (i : Nat) (H : Hp) (μ : List Addr) (H' : Hp) (μ' : List Addr), G i H μ → Kinds H μ → Stp H μ H' μ' → μ'.Nodup → G i H' μ'
/-- items that lie in a sequence that is not in the store -/
def Lies (T : Pgm) (P : Addr → Prop) (ow : List Addr) (sq : Hp → List V → Prop) (ds : List D) (i : Nat) (H : Hp) (μ : List Addr) : Prop :=
  ∃ vs fp, sq H vs ∧ vs.length = ds.length ∧ Reps T H μ (ds.drop i) (vs.drop i) fp ∧ (μ ++ (fp ++ ow)).Nodup ∧ (∀ a ∈ fp, P a) ∧ ∀ a ∈ ow, ∃ o, H a = some o
section
variable {T : Pgm} {P : Addr → Prop}
theorem lies_item {ow : List Addr} {sq : Hp → List V → Prop} {ds : List D} {i : Nat} {H : Hp} {μ : List Addr} {d : D} (h : Lies T P ow sq ds i H μ) (e : ds[i]? = some d) :
    ∃ vs v fp, sq H vs ∧ vs[i]? = some v ∧ Rep T H μ d v fp ∧ (μ ++ fp).Nodup ∧ (∀ a ∈ fp, P a) ∧ Lies T P ow sq ds (i + 1) H (μ ++ fp) := by
  obtain ⟨vs, fp, h1, hl, h2, h3, h4, h5⟩ := h
  obtain ⟨hi, rfl⟩ := List.getElem?_eq_some_iff.mp e
  rw [List.drop_eq_getElem_cons hi, List.drop_eq_getElem_cons (by omega : i < vs.length)] at h2
  obtain ⟨v, r, f1, f2, e1, r1, r2, rfl⟩ := h2
  obtain ⟨rfl, rfl⟩ := List.cons.inj e1
  rw [List.append_assoc, ← List.append_assoc] at h3
  exact ⟨vs, vs[i], f1, h1, List.getElem?_eq_getElem _, r1, nd_left h3, fun a m => h4 a (List.mem_append_left _ m), vs, f2, h1, hl, Reps.widen (Rep.kinds _ _ _ r1) _ _ _ r2, h3, fun a m => h4 a (List.mem_append_right _ m), h5⟩
theorem lies_keep {ow : List Addr} {sq : Hp → List V → Prop} {ds : List D} {i : Nat} {H H' : Hp} {μ μ' : List Addr} (hs : ∀ vs, sq H vs → (∀ a ∈ ow, a ∉ μ) → sq H' vs) (k : Kinds H μ) (s : Stp H μ H' μ') (nd : μ'.Nodup) (h : Lies T P ow sq ds i H μ) : Lies T P ow sq ds i H' μ' := by
  obtain ⟨vs, fp, h1, hl, h2, h3, h4, h5⟩ := h
  have no := nd_out h3
  refine ⟨vs, fp, hs vs h1 fun a m => no a (List.mem_append_right _ m), hl, Reps.keep k s _ _ _ h2 fun a m => no a (List.mem_append_left _ m), ?_, h4, fun a m => ?_⟩
  · have := nd_step (f2 := []) s h3 (by simpa using nd) (fun a m => (List.mem_append.mp m).elim (Reps.there _ _ _ h2 a) (h5 a)) (by simp)
    simpa using this
  · obtain ⟨o, e⟩ := h5 a m
    exact s.dom a o e
theorem walk_sq {ow : List Addr} {ds : List D} {J : It} {sq : Hp → List V → Prop}
    (hs : ∀ H μ H' μ' vs, Kinds H μ → Stp H μ H' μ' → (∀ a ∈ ow, a ∉ μ) → sq H vs → sq H' vs)
    (hgo : ∀ i H vs v, sq H vs → vs[i]? = some v → J.go i H) (hy : ∀ i H v H' vs, J.yld i H v H' → sq H vs → H' = H ∧ vs[i]? = some v) (hst : ∀ i H vs, sq H vs → vs.length ≤ i → J.stop i H) :
    Walk T P J ds none (Lies T P ow sq ds) where
  item := fun i d H μ S e g ok _ => by
    obtain ⟨vs, v, fp, h1, h2, h3, h4, h5, h6⟩ := lies_item g e
    refine ⟨hgo i H vs v h1 h2, fun u H1 y => ?_⟩
    obtain ⟨rfl, e2⟩ := hy i H u H1 vs y h1
    rw [h2] at e2; cases e2
    exact ⟨fun _ _ e => e, fp, h3, h4, h5, h6⟩
  stop := fun i H μ S hi g ok _ => by
    obtain ⟨vs, fp, h1, hl, _⟩ := g
    exact hst i H vs h1 (by omega)
  keep := fun i H μ H' μ' g k s nd => lies_keep (fun vs a b => hs H μ H' μ' vs k s b a) k s nd g
theorem walk_tup {ow : List Addr} {K : PySem.W.Frag} {a : Addr} {ds : List D} : Walk T P (Itt K a) ds none (Lies T P ow (fun H vs => SqT K H a vs) ds) :=
  walk_sq (fun H μ H' μ' vs k s _ q => SqT.keep k s.fr q) (fun i H vs v q e => ⟨vs, v, q, e⟩) (fun i H v H' vs y q => ⟨y.1, y.2 vs q⟩) fun i H vs q e => ⟨vs, q, e⟩
theorem walk_fz {ow : List Addr} {K : PySem.W.Frag} {a : Addr} {ds : List D} : Walk T P (Itl K a) ds none (Lies T P ow (fun H vs => FzAt K H a vs) ds) :=
  walk_sq (fun H μ H' μ' vs k s _ q => FzAt.keep k s.fr q) (fun i H vs v q e => ⟨vs, v, q.sq, e⟩) (fun i H v H' vs y q => ⟨y.1, y.2 vs q.sq⟩) fun i H vs q e => ⟨vs, q.sq, e⟩
theorem walk_lst {ow : List Addr} {K : PySem.W.Frag} {a : Addr} {ds : List D} (ha : a ∈ ow) : Walk T P (Itl K a) ds none (Lies T P ow (fun H vs => H a = some (.lst vs)) ds) :=
  walk_sq (fun H μ H' μ' vs k s n q => s.fr _ _ q (n a ha)) (fun i H vs v q e => ⟨vs, v, SqL.of q, e⟩) (fun i H v H' vs y q => ⟨y.1, y.2 vs (SqL.of q)⟩) fun i H vs q e => ⟨vs, SqL.of q, e⟩
theorem walk_ref {K : PySem.W.Frag} {a : Addr} {ds : List D} {n : Nat} : Walk T P (Itl K a) ds (some (n, ds)) (fun _ _ μ => μ[n]? = some a) where
  item := fun i d H μ S e g ok st => by
    obtain ⟨vs, q, r⟩ := ok.at_ n _ a (show S[n]? = some (.lst ds) from st) g
    obtain ⟨v, f, h1, h2, h3⟩ := Reps.get _ _ _ _ _ r e
    have hf : f = [] := List.sublist_nil.mp h3
    subst hf
    refine ⟨⟨vs, v, SqL.of q, h1⟩, fun u H1 y => ?_⟩
    obtain ⟨rfl, y⟩ := y
    have := y vs (SqL.of q)
    rw [h1] at this; cases this
    exact ⟨fun _ _ e => e, [], h2, by simpa using ok.nd, by simp, by rw [List.append_nil]; exact g⟩
  stop := fun i H μ S hi g ok st => by
    obtain ⟨vs, q, r⟩ := ok.at_ n _ a (show S[n]? = some (.lst ds) from st) g
    exact ⟨vs, SqL.of q, by rw [Reps.len _ _ _ r]; exact hi⟩
  keep := fun i H μ H' μ' g k s nd => s.get g
theorem walk_rng {lo : Int} {n : Nat} : Walk T P (Itr lo n) ((List.range n).map fun (k : Nat) => .int (lo + k)) none (fun _ _ _ => True) where
  item := fun i d H μ S e g ok st => by
    rw [List.getElem?_map] at e
    obtain ⟨j, e1, rfl⟩ := Option.map_eq_some_iff.mp e
    obtain ⟨hi, e2⟩ := List.getElem?_eq_some_iff.mp e1
    rw [List.getElem_range] at e2
    subst e2
    refine ⟨show i < n by simpa using hi, fun u H1 y => ?_⟩
    obtain ⟨rfl, rfl⟩ := y
    exact ⟨fun _ _ e => e, [], ⟨rfl, rfl⟩, by simpa using ok.nd, by simp, trivial⟩
  stop := fun i H μ S hi g ok st => show n ≤ i by simpa using hi
  keep := fun _ _ _ _ _ _ _ _ _ => trivial
theorem walk_str {x : Str} : Walk T P (Its x) (x.cps.toList.map fun c => .str ⟨#[c]⟩) none (fun _ _ _ => True) where
  item := fun i d H μ S e g ok st => by
    rw [List.getElem?_map] at e
    obtain ⟨c, e1, rfl⟩ := Option.map_eq_some_iff.mp e
    have e2 : x.cps[i]? = some c := by simpa using e1
    refine ⟨(Array.getElem?_eq_some_iff.mp e2).1, fun u H1 y => ?_⟩
    obtain ⟨rfl, c', e3, rfl⟩ := y
    rw [e2] at e3; cases e3
    exact ⟨fun _ _ e => e, [], ⟨rfl, rfl⟩, by simpa using ok.nd, by simp, trivial⟩
  stop := fun i H μ S hi g ok st => show x.cps.size ≤ i by simpa using hi
  keep := fun _ _ _ _ _ _ _ _ _ => trivial
theorem walk_zip {K : PySem.W.Frag} {a b : Addr} {as bs : List D} (hK : T.K = K) : Walk T P (RZ.ItzT K a b) (as.zipWith (fun x y => .tup [x, y]) bs) none
    (fun _ H μ => ∃ xs ys, SqT K H a xs ∧ SqT K H b ys ∧ Reps T H μ as xs [] ∧ Reps T H μ bs ys []) where
  item := fun i d H μ S e g ok st => by
    obtain ⟨xs, ys, q1, q2, r1, r2⟩ := g
    rw [List.getElem?_zipWith] at e
    split at e
    · rename_i x y ex ey
      cases e
      obtain ⟨v, f, h1, h2, h3⟩ := Reps.get _ _ _ _ _ r1 ex
      obtain ⟨v', f', h1', h2', h3'⟩ := Reps.get _ _ _ _ _ r2 ey
      have hf : f = [] := List.sublist_nil.mp h3
      have hf' : f' = [] := List.sublist_nil.mp h3'
      subst hf; subst hf'
      refine ⟨⟨xs, ys, v, v', q1, q2, h1, h1'⟩, fun u H1 y => ?_⟩
      obtain ⟨p, x1, x2, rfl, np, rfl, y1, y2⟩ := y
      have e1 := y1 xs q1
      have e2 := y2 ys q2
      rw [h1] at e1; rw [h1'] at e2
      cases e1; cases e2
      have sm : Same H (upd H p (.tup [v, v'])) := Same.upd np
      refine ⟨sm, [], ⟨p, [v, v'], rfl, .inl (.inl upd_same), v, [v'], [], [], rfl, Rep.same sm _ _ _ h2, ⟨v', [], [], [], rfl, Rep.same sm _ _ _ h2', ⟨rfl, rfl⟩, rfl⟩, rfl⟩, by simpa using ok.nd, by simp, ?_⟩
      rw [List.append_nil]
      exact ⟨xs, ys, SqT.keep Same.k0 (fun b o e _ => sm b o e) q1, SqT.keep Same.k0 (fun b o e _ => sm b o e) q2, Reps.same sm _ _ _ r1, Reps.same sm _ _ _ r2⟩
    · cases e
  stop := fun i H μ S hi g ok st => by
    obtain ⟨xs, ys, q1, q2, r1, r2⟩ := g
    rw [List.length_zipWith] at hi
    have l1 := Reps.len _ _ _ r1
    have l2 := Reps.len _ _ _ r2
    exact ⟨xs, ys, q1, q2, by omega⟩
  keep := fun i H μ H' μ' g k s nd => by
    obtain ⟨xs, ys, q1, q2, r1, r2⟩ := g
    exact ⟨xs, ys, SqT.keep k s.fr q1, SqT.keep k s.fr q2, Reps.keep k s _ _ _ r1 (by simp), Reps.keep k s _ _ _ r2 (by simp)⟩
end
/-- new since H0, there in H1 -/
def Nw (H0 H1 : Hp) (a : Addr) : Prop := H0 a = none ∧ ∃ o, H1 a = some o
/-- an iterator is made; N: with a new list beside it that grows -/
structure Begun (T : Pgm) (H0 : Hp) (J : It) (ds : List D) (lk : Option (Nat × List D)) (H1 : Hp) (μ1 : List Addr) : Prop where
  len : ds.length ≤ sizeLine
  fwd : ∃ G, Walk T (Nw H0 H1) J ds lk G ∧ G 0 H1 μ1
  new : ∀ N, H1 N = none → ∃ G, Walk T (Nw H0 H1) J ds lk G ∧ G 0 (upd H1 N (.lst [])) μ1 ∧ ∀ i H μ xs ys, G i H μ → N ∉ μ → H N = some (.lst xs) → G i (upd H N (.lst ys)) μ
section
variable {T : Pgm} {H0 : Hp}
theorem kinds1 {H : Hp} {N : Addr} {xs : List V} (h : H N = some (.lst xs)) : Kinds H [N] := fun b m => by
  have : b = N := by simpa using m
  subst this; exact .inl ⟨xs, h⟩
theorem fr1 {H : Hp} {N : Addr} {o : HO} : ∀ b u, H b = some u → b ∉ [N] → upd H N o b = some u := fun b u e n => by
  rw [upd_ne (by simpa using n)]; exact e
theorem exc1 {H : Hp} {N : Addr} {xs : List V} {μ : List Addr} (h : H N = some (.lst xs)) (a c : Addr) (q : H a = some (excHO c a)) (n : a ∉ μ) : a ∉ μ ∧ a ∉ [N] := ⟨n, fun m => by
  have : a = N := by simpa using m
  subst this; rw [h] at q; cases q⟩
theorem Reps.upd1 {H : Hp} {N : Addr} {xs ys : List V} {μ : List Addr} {ds : List D} {vs : List V} {fp : List Addr} (h : H N = some (.lst xs)) (r : Reps T H μ ds vs fp) (n : N ∉ fp) : Reps T (L2.upd H N (.lst ys)) μ ds vs fp :=
  Reps.keepG (kinds1 h) fr1 (fun _ _ e => e) (exc1 h) ds vs fp r fun a m z => n (by
    have : a = N := by simpa using z
    rw [← this]; exact m)
theorem SqT.upd1 {K : PySem.W.Frag} {H : Hp} {N a : Addr} {xs ys vs : List V} (h : H N = some (.lst xs)) (q : SqT K H a vs) : SqT K (L2.upd H N (.lst ys)) a vs := SqT.keep (kinds1 h) fr1 q
theorem FzAt.upd1 {K : PySem.W.Frag} {H : Hp} {N a : Addr} {xs ys vs : List V} (h : H N = some (.lst xs)) (q : FzAt K H a vs) : FzAt K (L2.upd H N (.lst ys)) a vs := FzAt.keep (kinds1 h) fr1 q
theorem begun_lies {J : It} {ds : List D} {sq : Hp → List V → Prop} {ow : List Addr} {H1 : Hp} {μ1 : List Addr} {S : Sto} (hlen : ds.length ≤ sizeLine) (ok : StOk T H1 μ1 S) (w : ∀ ow', Walk T (Nw H0 H1) J ds none (Lies T (Nw H0 H1) (ow ++ ow') sq ds)) (l : Lies T (Nw H0 H1) ow sq ds 0 H1 μ1)
    (h1 : ∀ H N vs, sq H vs → H N = none → sq (upd H N (.lst [])) vs) (h2 : ∀ H N xs ys vs, sq H vs → H N = some (.lst xs) → N ∉ ow → sq (upd H N (.lst ys)) vs) : Begun T H0 J ds none H1 μ1 where
  len := hlen
  fwd := ⟨_, by simpa using w [], l⟩
  new := fun N nN => by
    obtain ⟨vs, fp, a1, a2, a3, a4, a5, a6⟩ := l
    have nf : ∀ a ∈ fp, a ≠ N := fun a m e => by
      obtain ⟨o, z⟩ := Reps.there _ _ _ a3 a m
      rw [e, nN] at z; cases z
    have no : ∀ a ∈ ow, a ≠ N := fun a m e => by
      obtain ⟨o, z⟩ := a6 a m
      rw [e, nN] at z; cases z
    have nm : ∀ a ∈ μ1, a ≠ N := fun a m e => by
      rcases ok.kinds a m with ⟨_, z⟩ | ⟨_, z⟩ | ⟨_, z⟩ <;> (rw [e, nN] at z; cases z)
    refine ⟨_, w [N], ⟨vs, fp, h1 _ _ _ a1 nN, a2, Reps.same (Same.upd nN) _ _ _ a3, ?_, a5, fun a m => ?_⟩, fun i H μ xs ys g hn hN => ?_⟩
    · rw [← List.append_assoc, ← List.append_assoc]
      rw [← List.append_assoc] at a4
      refine List.nodup_append.mpr ⟨a4, by simp, fun x hx y hy e => ?_⟩
      have hy' : y = N := by simpa using hy
      subst e
      subst hy'
      rcases List.mem_append.mp hx with hx | hx
      · rcases List.mem_append.mp hx with hx | hx
        · exact nm _ hx rfl
        · exact nf _ hx rfl
      · exact no _ hx rfl
    · rcases List.mem_append.mp m with m | m
      · obtain ⟨o, z⟩ := a6 a m
        exact ⟨o, Same.upd nN _ _ z⟩
      · have : a = N := by simpa using m
        subst this; exact ⟨_, upd_same⟩
    · obtain ⟨vs, fp, b1, b2, b3, b4, b5, b6⟩ := g
      obtain ⟨n1, n2, n3⟩ := List.nodup_append.mp b4
      obtain ⟨m1, m2, m3⟩ := List.nodup_append.mp n2
      obtain ⟨k1, k2, k3⟩ := List.nodup_append.mp m2
      refine ⟨vs, fp, h2 _ _ xs ys _ b1 hN fun m => k3 N m N (by simp) rfl, b2, Reps.upd1 hN b3 fun m => m3 N m N (by simp) rfl, b4, b5, fun a m => ?_⟩
      by_cases e : a = N
      · subst e; exact ⟨_, upd_same⟩
      · obtain ⟨o, z⟩ := b6 a m
        exact ⟨o, by rw [upd_ne e]; exact z⟩
theorem begun_any {J : It} {ds : List D} {lk : Option (Nat × List D)} {G : Nat → Hp → List Addr → Prop} {H1 : Hp} {μ1 : List Addr} (hlen : ds.length ≤ sizeLine) (w : Walk T (Nw H0 H1) J ds lk G) (g : G 0 H1 μ1)
    (h1 : ∀ N, H1 N = none → G 0 (upd H1 N (.lst [])) μ1) (h2 : ∀ i H μ N xs ys, G i H μ → N ∉ μ → H N = some (.lst xs) → G i (upd H N (.lst ys)) μ) : Begun T H0 J ds lk H1 μ1 :=
  ⟨hlen, ⟨G, w, g⟩, fun N nN => ⟨G, w, h1 N nN, fun i H μ xs ys => h2 i H μ N xs ys⟩⟩
end
/-- a sequence is not too long -/
def LenOk (K : PySem.W.Frag) (H : Hp) (v : V) : Prop := ∀ a xs, v = .ref a → (SqL K H a xs ∨ SqT K H a xs) → xs.length ≤ sizeLine
theorem Inv.lenOk {X : Cx} {pins : List (Addr × Obj)} {σ : Slots} {H : Hp} {s : Shared} (I : L2.Inv X pins σ H s) (v : V) : LenOk X.K H v := fun a xs _ h => by
  rcases h with h | h
  · obtain ⟨_, _, _, z⟩ := I.list h; exact z
  · obtain ⟨_, _, _, z⟩ := I.tuple h; exact z
theorem PE.len {X : Cx} {e : Expr} {t : TE} (h : L2.PE X e t) : L2.PE X e (fun σ H Q => t σ H fun v H1 => LenOk X.K H1 v → Q v H1) := ⟨fun pins s σ H Q I q =>
  thn (h.run pins s σ H _ I q) fun u s1 ⟨v, H1, I1, r, k⟩ => ⟨v, H1, I1, r, k (Inv.lenOk I1 v)⟩⟩
theorem PA.len {X : Cx} {es : List Expr} {t : TA} (h : PA X es t) : PA X es (fun σ H Q => t σ H fun vs H1 => (∀ v, LenOk X.K H1 v) → Q vs H1) := ⟨fun pos pins s σ H Q I q =>
  thn (h.run pos pins s σ H _ I q) fun u s1 ⟨v, H1, I1, r, k⟩ => ⟨v, H1, I1, r, k (Inv.lenOk I1)⟩⟩
/-- the reading of what a for walks -/
def tIt (T : Pgm) (W : WX) (g : G) (k : ItK) (es : List PE) : TI := fun σ H R => ∃ ρ S μ, EnvOk T H μ σ ρ ∧ StOk T H μ S ∧ Ran T W σ H μ (evalEs g es ρ S) fun ds S1 => ∃ its lk, itemsOf S1 k ds = some (its, lk) ∧
  ∀ J H1 μ1, Stp H μ H1 μ1 → StOk T H1 μ1 S1 → Begun T H J its lk H1 μ1 → R J H1
theorem PI.dep {X : Cx} {tg iter : Expr} {t : TI} (h : ∀ σ H R, t σ H R → ∃ t', PI X tg iter t' ∧ t' σ H R) : PI X tg iter t := ⟨fun pins s σ H R I q => by
  obtain ⟨t', h1, h2⟩ := h σ H R q
  exact h1.run pins s σ H R I h2⟩
section
variable {X : Cx} {C : Nat → Addr} {W : WX} {g : G} {tg : Expr}
/-- one operand, as a list of one -/
theorem ev_one {T : Pgm} {σ : Slots} {H : Hp} {μ : List Addr} {ρ : Env} {S : Sto} {e : PE} {Q : List D → Sto → Prop} (h : Ran T W σ H μ (evalEs g [e] ρ S) Q) : Ran T W σ H μ (evalE g e ρ S) fun d S1 => Q [d] S1 := by
  have h' : Ran T W σ H μ (bnd (evalE g e ρ S) fun d S => bnd (evalEs g [] ρ S) fun ds S => some (.ok (d :: ds) S)) Q := by
    unfold evalEs at h; exact h
  refine h'.bnd.imp fun d S1 _ q => ?_
  unfold evalEs at q
  exact q
theorem ev1e {T : Pgm} {σ : Slots} {H : Hp} {μ : List Addr} {ρ : Env} {S : Sto} {a : PE} (env : EnvOk T H μ σ ρ) (st : StOk T H μ S) {K : D → Sto → Prop} {Q : VK} (h : Ran T W σ H μ (evalE g a ρ S) K)
    (f : ∀ x S1 v H1 μ1 fp, evalE g a ρ S = some (.ok x S1) → Pst T H μ x S1 v H1 μ1 fp → K x S1 → Q v H1) : tEv T W g a σ H Q :=
  ⟨ρ, S, μ, env, st, h.imp fun x S1 e k v H1 μ1 fp p => f x S1 v H1 μ1 fp e p k⟩
theorem evse {T : Pgm} {σ : Slots} {H : Hp} {μ : List Addr} {ρ : Env} {S : Sto} {as : List PE} (env : EnvOk T H μ σ ρ) (st : StOk T H μ S) {K : List D → Sto → Prop} {Q : List V → Hp → Prop} (h : Ran T W σ H μ (evalEs g as ρ S) K)
    (f : ∀ x S1 v H1 μ1 fp, evalEs g as ρ S = some (.ok x S1) → Psts T H μ x S1 v H1 μ1 fp → K x S1 → Q v H1) : tEvs T W g as σ H Q :=
  ⟨ρ, S, μ, env, st, h.imp fun x S1 e k v H1 μ1 fp p => f x S1 v H1 μ1 fp e p k⟩
theorem pi_val {e : PE} {x : Expr} (he : L2.PE X x (tEv (tOf X C) W g e)) : PI X tg x (tIt (tOf X C) W g .val [e]) := by
  refine PI.dep fun σ H R ⟨ρ, S, μ, env, st, h⟩ => ?_
  have h1 := ev_one h
  cases hm : evalE g e ρ S with
  | none => rw [hm] at h1; exact h1.elim
  | some r =>
    cases r with
    | ex c S1 =>
      refine ⟨_, pi_list he, ev1e env st h1 fun x S1' v H1 μ1 fp e1 p k => ?_⟩
      rw [hm] at e1; cases e1

    | ok d S1 =>
      have h2 : ∃ its lk, itemsOf S1 .val [d] = some (its, lk) ∧ ∀ J H1 μ1, Stp H μ H1 μ1 → StOk (tOf X C) H1 μ1 S1 → Begun (tOf X C) H J its lk H1 μ1 → R J H1 := by
        rw [hm] at h1; exact h1
      obtain ⟨its, lk, hi, q⟩ := h2
      have go : ∀ {Q : VK}, (∀ v H1 μ1 fp, Pst (tOf X C) H μ d S1 v H1 μ1 fp → Q v H1) → tEv (tOf X C) W g e σ H Q := fun {Q} f => ev1e env st h1 fun x S1' v H1 μ1 fp e1 p k => by
        rw [hm] at e1; cases e1; exact f v H1 μ1 fp p
      cases d with
      | tup ds =>
        cases hi
        refine ⟨_, pi_tup (PE.len he), go fun v H1 μ1 fp p lo => ?_⟩
        obtain ⟨a, vs, rfl, sq, rs⟩ := p.rep
        exact ⟨a, rfl, ⟨vs, sq⟩, q _ H1 μ1 p.stp p.ok (begun_lies (ow := []) (by rw [← Reps.len _ _ _ rs]; exact lo a vs rfl (.inr sq)) p.ok (fun _ => walk_tup) ⟨vs, fp, sq, Reps.len _ _ _ rs, rs, by simpa using p.nd, fun b m => ⟨p.new b m, Reps.there _ _ _ rs b m⟩, by simp⟩ (fun H N vs q n => SqT.keep Same.k0 (fun b o e _ => Same.upd n b o e) q) fun H N xs ys vs q h _ => SqT.upd1 h q)⟩
      | lst ds =>
        cases hi
        refine ⟨_, pi_list (PE.len he), go fun v H1 μ1 fp p lo => ?_⟩
        obtain ⟨a, vs, f', rfl, sq, rs, rfl⟩ := p.rep
        exact ⟨a, rfl, ⟨vs, SqL.of sq⟩, q _ H1 μ1 p.stp p.ok (begun_lies (ow := [a]) (by rw [← Reps.len _ _ _ rs]; exact lo a vs rfl (.inl (SqL.of sq))) p.ok (fun _ => walk_lst (by simp)) ⟨vs, f', sq, Reps.len _ _ _ rs, rs, p.nd, fun b m => ⟨p.new b (List.mem_append_left _ m), Reps.there _ _ _ rs b m⟩, fun b m => by
          have : b = a := by simpa using m
          subst this; exact ⟨_, sq⟩⟩ (fun H N vs q n => Same.upd n _ _ q) fun H N xs ys vs q h n => by
          rw [upd_ne (fun e => n (by rw [e]; simp))]; exact q)⟩
      | fz ds =>
        cases hi
        refine ⟨_, pi_list (PE.len he), go fun v H1 μ1 fp p lo => ?_⟩
        obtain ⟨a, vs, rfl, sq, rs, rfl⟩ := p.rep
        exact ⟨a, rfl, ⟨vs, sq.sq⟩, q _ H1 μ1 p.stp p.ok (begun_lies (ow := []) (by rw [← Reps.len _ _ _ rs]; exact lo a vs rfl (.inl sq.sq)) p.ok (fun _ => walk_fz) ⟨vs, [], sq, Reps.len _ _ _ rs, rs, by simpa using p.ok.nd, by simp, by simp⟩ (fun H N vs q n => FzAt.keep Same.k0 (fun b o e _ => Same.upd n b o e) q) fun H N xs ys vs q h _ => FzAt.upd1 h q)⟩
      | str z =>
        have hi' : (if z.length ≤ 16777216 then some (z.cps.toList.map fun c => D.str ⟨#[c]⟩, (none : Option (Nat × List D))) else none) = some (its, lk) := hi
        split at hi'
        case isFalse => cases hi'
        rename_i hz
        cases hi'
        refine ⟨_, pi_str he, go fun v H1 μ1 fp p => ?_⟩
        obtain ⟨rfl, rfl⟩ := p.rep
        exact ⟨z, rfl, q _ H1 μ1 p.stp p.ok (begun_any (by rw [List.length_map]; exact hz) walk_str trivial (fun _ _ => trivial) fun _ _ _ _ _ _ _ _ _ => trivial)⟩
      | ref n =>
        have hi' : (match S1[n]? with | some (.lst ds) => some (ds, some (n, ds)) | _ => none) = some (its, lk) := hi
        split at hi'
        · rename_i ds hS
          cases hi'
          refine ⟨_, pi_list (PE.len he), go fun v H1 μ1 fp p lo => ?_⟩
          obtain ⟨a, rfl, hm', rfl⟩ := p.rep
          obtain ⟨vs, sq, rs⟩ := p.ok.at_ n _ a hS hm'
          exact ⟨a, rfl, ⟨vs, SqL.of sq⟩, q _ H1 μ1 p.stp p.ok (begun_any (by rw [← Reps.len _ _ _ rs]; exact lo a vs rfl (.inl (SqL.of sq))) walk_ref hm' (fun _ _ => hm') fun _ _ _ _ _ _ g _ _ => g)⟩
        · cases hi'
      | _ => cases hi
theorem pi_rng1 {e : PE} {x : Expr} {p pos : Pos} (hg : Gl X "range") (hm : X.mg "range" = none) (hx : noStar x = true) (ha : PA X [x] (tEvs (tOf X C) W g [e])) : PI X tg (.Call (.Name "range" p) [x] [] pos) (tIt (tOf X C) W g .rng1 [e]) := by
  have base := pi_range1 (tg := tg) (p := p) (pos := pos) hg hm ha (star_of (es := []) hx)
  refine PI.dep fun σ H R ⟨ρ, S, μ, env, st, h⟩ => ⟨_, base, evse env st h fun ds S1 vs H1 μ1 fp e1 p ⟨its, lk, hi, q⟩ => ?_⟩
  match ds, hi with
  | [.int j], hi =>
    have hi' : (if decide (j ≤ 1000000) && decide (-1000000 ≤ j) then some ((List.range j.toNat).map fun (k : Nat) => D.int k, (none : Option (Nat × List D))) else none) = some (its, lk) := hi
    split at hi'
    · rename_i hj
      cases hi'
      simp only [Bool.and_eq_true, decide_eq_true_eq] at hj
      obtain ⟨v, rfl, rfl, rfl⟩ := Reps.one p.rep
      refine ⟨j, rfl, by omega, by omega, q _ H1 μ1 p.stp p.ok (begun_any (G := fun _ _ _ => True) (by rw [List.length_map, List.length_range, sizeLine_eq]; omega) ?_ trivial (fun _ _ => trivial) fun _ _ _ _ _ _ _ _ _ => trivial)⟩
      have w := walk_rng (T := tOf X C) (P := Nw H H1) (lo := 0) (n := j.toNat)
      simpa using w
    · cases hi'
theorem pi_rng2 {e e' : PE} {x x' : Expr} {p pos : Pos} (hg : Gl X "range") (hm : X.mg "range" = none) (hx : noStar x = true) (hx' : noStar x' = true) (ha : PA X [x, x'] (tEvs (tOf X C) W g [e, e'])) : PI X tg (.Call (.Name "range" p) [x, x'] [] pos) (tIt (tOf X C) W g .rng2 [e, e']) := by
  have base := pi_range2 (tg := tg) (p := p) (pos := pos) hg hm ha (by rw [star_of (es := [x']) hx, star_of (es := []) hx']; rfl) (star_of (es := []) hx')
  refine PI.dep fun σ H R ⟨ρ, S, μ, env, st, h⟩ => ⟨_, base, evse env st h fun ds S1 vs H1 μ1 fp e1 p ⟨its, lk, hi, q⟩ => ?_⟩
  match ds, hi with
  | [.int i, .int j], hi =>
    have hi' : (if decide (j ≤ 1000000) && decide (-1000000 ≤ j) && decide (i ≤ 1000000) && decide (-1000000 ≤ i) then some ((List.range (j - i).toNat).map fun (k : Nat) => D.int (i + k), (none : Option (Nat × List D))) else none) = some (its, lk) := hi
    split at hi'
    · rename_i hj
      cases hi'
      simp only [Bool.and_eq_true, decide_eq_true_eq] at hj
      obtain ⟨u, v, f1, f2, rfl, ⟨rfl, rfl⟩, ⟨rfl, rfl⟩, rfl⟩ := Reps.two p.rep
      exact ⟨i, j, rfl, ⟨by omega, by omega, by omega, by omega⟩, q _ H1 μ1 p.stp p.ok (begun_any (by rw [List.length_map, List.length_range, sizeLine_eq]; omega) walk_rng trivial (fun _ _ => trivial) fun _ _ _ _ _ _ _ _ _ => trivial)⟩
    · cases hi'
theorem pi_zipD {e e' : PE} {x x' : Expr} {p pos tpos : Pos} {elts : List Expr} {kk : Nat} (hg : Gl X "zip") (hm : X.mg "zip" = none) (hx : noStar x = true) (hx' : noStar x' = true) (ha : PA X [x, x'] (tEvs (tOf X C) W g [e, e'])) :
    PI X (.Tuple elts kk tpos) (.Call (.Name "zip" p) [x, x'] [] pos) (tIt (tOf X C) W g .zip [e, e']) := by
  have base := RZ.pi_zipA (elts := elts) (kk := kk) (tpos := tpos) (p := p) (pos := pos) hg hm (PA.len ha) (star_of (es := [x']) hx) (stars_none (es := [x']) (by simpa using hx'))
  refine PI.dep fun σ H R ⟨ρ, S, μ, env, st, h⟩ => ⟨_, base, evse env st h fun ds S1 vs H1 μ1 fp e1 p ⟨its, lk, hi, q⟩ lo => ?_⟩
  match ds, hi with
  | [.tup as, .tup bs], hi =>
    have hi' : (if settleds as && settleds bs then some (as.zipWith (fun x y => D.tup [x, y]) bs, (none : Option (Nat × List D))) else none) = some (its, lk) := hi
    split at hi'
    · rename_i hj
      cases hi'
      obtain ⟨j1, j2⟩ := Bool.and_eq_true_iff.mp hj
      obtain ⟨u, v, f1, f2, rfl, ⟨a, xs, rfl, sq1, r1⟩, ⟨b, ys, rfl, sq2, r2⟩, rfl⟩ := Reps.two p.rep
      have z1 := Reps.settled _ _ _ r1 j1
      have z2 := Reps.settled _ _ _ r2 j2
      subst z1; subst z2
      exact ⟨a, b, xs, ys, rfl, .inr ⟨sq1, sq2, q _ H1 μ1 p.stp p.ok (begun_any (by
        rw [List.length_zipWith]
        have := lo _ a xs rfl (.inr sq1)
        rw [Reps.len _ _ _ r1] at this
        omega) (walk_zip rfl) ⟨xs, ys, sq1, sq2, r1, r2⟩ (fun N n => ⟨xs, ys, SqT.keep Same.k0 (fun b o e _ => Same.upd n b o e) sq1, SqT.keep Same.k0 (fun b o e _ => Same.upd n b o e) sq2, Reps.same (Same.upd n) _ _ _ r1, Reps.same (Same.upd n) _ _ _ r2⟩)
        fun i H μ N xs' ys' ⟨xs, ys, q1, q2, r1, r2⟩ _ hN => ⟨xs, ys, SqT.upd1 hN q1, SqT.upd1 hN q2, Reps.upd1 hN r1 (by simp), Reps.upd1 hN r2 (by simp)⟩)⟩⟩
    · cases hi'
end
end Ev
end
section
set_option Elab.async false
set_option linter.all false
set_option maxRecDepth 100000
namespace Ev
open PySem PySem.Spec PyProof.Rows L2 PySem.SeqAt
/-- the calls of a def, as a promise -/
def spF (T : Pgm) (F : List D → Sto → Option (R D)) : Sp := fun vs H Q E => ∃ ds S μ fp, Reps T H μ ds vs fp ∧ StOk T H μ S ∧ (μ ++ fp).Nodup ∧ match F ds S with
  | some (.ok d S') => OutM T H μ fp S' d Q
  | some (.ex c S') => ∀ H' μ', StpO fp H μ H' μ' → StOk T H' μ' S' → E (.ref (T.C c)) none H'
  | none => False
def bNm : Blt → Str
  | .len => "len"
  | .abs => "abs"
  | .min2 => "min"
  | .max2 => "max"
  | .maxL => "max"
  | .minL => "min"
  | .sum => "sum"
  | .sorted => "sorted"
  | .tuple => "tuple"
  | .list => "list"
  | .int => "int"
  | .str => "str"
def bltNames : List Str := ["len", "abs", "min", "max", "sum", "sorted", "tuple", "list", "int", "str", "isinstance", "range", "zip", "dict", "bool", "ValueError", "enumerate"]
def tyNm : Ty → Str
  | .int => "int"
  | .str => "str"
  | .tuple => "tuple"
  | .list => "list"
  | .dict => "dict"
  | .bool => "bool"
  | .valueError => "ValueError"
  | .cls _ => ""
theorem boot_b (b : Blt) : bootBuiltins (bNm b) = some (bId b) := by cases b <;> decide +kernel
theorem bNm_mem (b : Blt) : bNm b ∈ bltNames := by cases b <;> decide +kernel
theorem bNm_nm (b : Blt) : bNm b ≠ "__name__" := by cases b <;> decide +kernel
theorem bNm_db (b : Blt) : (bNm b == ("__debug__" : Str)) = false := by cases b <;> decide +kernel
def tyBi : Ty → String
  | .int => "int"
  | .str => "str"
  | .tuple => "tuple"
  | .list => "list"
  | .dict => "dict"
  | .bool => "bool"
  | .valueError => "ValueError"
  | .cls _ => "int"
theorem boot_ty0 (t : Ty) (h : ∀ c, t ≠ .cls c) : bootBuiltins (tyNm t) = some (.type (tyBi t)) ∧ tyNm t ∈ bltNames ∧ tyNm t ≠ "__name__" ∧ (tyNm t == ("__debug__" : Str)) = false := by
  cases t with
  | cls c => exact absurd rfl (h c)
  | _ => exact ⟨by decide +kernel, by decide +kernel, by decide +kernel, by decide +kernel⟩
theorem boot_ty (C : Nat → Addr) (t : Ty) (h : ∀ c, t ≠ .cls c) : bootBuiltins (tyNm t) = some (clsU C t) ∧ RelV (clsV C t) (clsU C t) ∧ tyNm t ∈ bltNames ∧ tyNm t ≠ "__name__" ∧ (tyNm t == ("__debug__" : Str)) = false := by
  obtain ⟨h1, h2⟩ := boot_ty0 t h
  cases t with
  | cls c => exact absurd rfl (h c)
  | _ => exact ⟨h1, rfl, h2⟩
def scalV : D → V → Prop
  | .non, v => v = .non
  | .bl b, v => v = .bl b
  | .int i, v => v = .int i
  | .str x, v => v = .str x
  | _, _ => False
theorem scalV.rep {T : Pgm} {H : Hp} {μ : List Addr} {d : D} {v : V} (h : scalV d v) : Rep T H μ d v [] := by
  cases d with
  | non => exact ⟨h, rfl⟩
  | bl b => exact ⟨h, rfl⟩
  | int b => exact ⟨h, rfl⟩
  | str b => exact ⟨h, rfl⟩
  | _ => exact h.elim
structure ScOk (sc sc' : Scope) : Prop where
  look : ∀ x k, sc.names.lookup x = some k → ∃ k', sc'.names.lookup x = some k' ∧ (k' = k ∨ (k = .free ∧ k' = .cell))
theorem ScOk.vis {sc sc' : Scope} (h : ScOk sc sc') {x : Str} (v : Ev.vis sc x = true) : Vis sc' x := by
  rcases vis_ok v with e | e | e <;> obtain ⟨k', h1, h2⟩ := h.look x _ e
  · rcases h2 with rfl | ⟨z, _⟩
    · exact .inl h1
    · cases z
  · rcases h2 with rfl | ⟨z, _⟩
    · exact .inr (.inl h1)
    · cases z
  · rcases h2 with rfl | ⟨_, rfl⟩
    · exact .inr (.inr h1)
    · exact .inr (.inl h1)
theorem ScOk.refl (sc : Scope) : ScOk sc sc := ⟨fun x k h => ⟨k, h, .inl rfl⟩⟩
def loc (sc : Scope) (x : Str) : Bool := match sc.names.lookup x with
  | some .local => true
  | some .cell => true
  | _ => false
theorem loc_ok {sc : Scope} {x : Str} (h : loc sc x = true) : sc.names.lookup x = some .local ∨ sc.names.lookup x = some .cell := by
  unfold loc at h
  split at h
  · exact .inl (by assumption)
  · exact .inr (by assumption)
  · cases h
theorem ScOk.loc {sc sc' : Scope} (h : ScOk sc sc') {x : Str} (v : Ev.loc sc x = true) : Loc sc' x := by
  rcases loc_ok v with e | e <;> obtain ⟨k', h1, h2⟩ := h.look x _ e
  · rcases h2 with rfl | ⟨z, _⟩
    · exact .inl h1
    · cases z
  · rcases h2 with rfl | ⟨z, _⟩
    · exact .inr h1
    · cases z
/-- where one stands: n the room, W what is wished of exceptions -/
structure Good (C : Nat → Addr) (W : WX) (n : Nat) (g : G) (cc : CC) (X : Cx) : Prop where
  calm : X.calm = true
  room : Room n X.A
  tk : Takes X W
  hN : X.N = cc.N
  nd : cc.N.Nodup
  sc : ScOk cc.sc X.env.scope
  fn : ∀ x, Ev.loc cc.sc x = true → X.fn x = true ∨ X.env.scope.names.lookup x = some .local
  ec : ExcK X.K C g.isa
  funs : ∀ (f : Nat) (x : Str), cc.fnames[f]? = some x → ∃ addr fd ps, X.mg x = some (.ref addr) ∧ PySem.W.keepIn X.K (.ref addr) = true ∧ Binds X.K fd ps [] ∧ FnOk X.prog X.w X.K X.mg X.base (L2.CX X.prog X.w) n addr fd ps (spF (tOf X C) (g.F f))
  cls : ∀ (c : Nat) (x : Str), cc.cnames[c]? = some x → X.mg x = some (.ref (C c)) ∧ ∀ c', C c' ≠ 0
  con : ∀ (x : Str) (d : D), cc.consts.lookup x = some d → ∃ u v, X.mg x = some u ∧ RelV v u ∧ scalV d v
  free : ∀ x ∈ bltNames, X.mg x = none
theorem relabel_lk {env : PySem.Env} : ∀ {names : List (Str × NameKind)} {x : Str} {k : NameKind}, names.lookup x = some k →
    ∃ k', (names.map fun (n, k) => if (k == NameKind.free && env.scope.kind == .function && env.kindOf n == some .cell) then (n, NameKind.cell) else (n, k)).lookup x = some k' ∧ (k' = k ∨ (k = .free ∧ k' = .cell))
  | [], _, _, h => by simp at h
  | (m, k0) :: r, x, k, h => by
    rw [List.lookup_cons] at h
    show ∃ k', List.lookup x ((if (k0 == NameKind.free && env.scope.kind == .function && env.kindOf m == some .cell) = true then (m, NameKind.cell) else (m, k0)) :: _) = some k' ∧ _
    by_cases e : (x == m) = true
    · rw [e] at h
      cases h
      by_cases hc : (k0 == NameKind.free && env.scope.kind == .function && env.kindOf m == some .cell) = true
      · rw [if_pos hc]
        refine ⟨.cell, by rw [List.lookup_cons, e], .inr ⟨?_, rfl⟩⟩
        simp only [Bool.and_eq_true, beq_iff_eq] at hc
        exact hc.1.1
      · rw [if_neg hc]
        exact ⟨k0, by rw [List.lookup_cons, e], .inl rfl⟩
    · have e' : (x == m) = false := by simpa using e
      rw [e'] at h
      obtain ⟨k', h1, h2⟩ := relabel_lk (env := env) h
      refine ⟨k', ?_, h2⟩
      by_cases hc : (k0 == NameKind.free && env.scope.kind == .function && env.kindOf m == some .cell) = true
      · rw [if_pos hc, List.lookup_cons, e']; exact h1
      · rw [if_neg hc, List.lookup_cons, e']; exact h1
/-- in the block of a comprehension -/
theorem Good.blk {C : Nat → Addr} {W : WX} {n : Nat} {g : G} {cc : CC} {X : Cx} (G : Good C W n g cc X) (scope : Scope) (s : Shared) (H : Hp) (A : Addr) (cl : List (Str × Addr)) (fp : List Addr) :
    Good C (fun _ _ _ _ => False) n g { cc with sc := scope } (X.blk s H scope (compEnvC scope cl A X.env) fp) := by
  refine ⟨G.calm, G.room, takes0, G.hN, G.nd, ⟨fun x k h => relabel_lk h⟩, fun x h => ?_, G.ec, G.funs, G.cls, G.con, G.free⟩
  rcases loc_ok h with e | e
  · obtain ⟨k', h1, h2⟩ := relabel_lk (env := X.env) e
    rcases h2 with rfl | ⟨z, _⟩
    · exact .inr h1
    · cases z
  · left
    show (scope.names.lookup x == some .cell) = true
    rw [e]; rfl
theorem Good.gl {C : Nat → Addr} {W : WX} {n : Nat} {g : G} {cc : CC} {X : Cx} (G : Good C W n g cc X) {x : Str} (h : glob cc.sc x = true) : Gl X x ∧ (x == ("__debug__" : Str)) = false ∧ x ≠ "__name__" := by
  unfold glob at h
  simp only [Bool.and_eq_true, decide_eq_true_eq] at h
  obtain ⟨⟨h1, h2⟩, h3⟩ := h
  obtain ⟨k', e1, e2⟩ := G.sc.look x _ h1
  refine ⟨?_, beq_eq_false_iff_ne.mpr h2, h3⟩
  rcases e2 with rfl | ⟨z, _⟩
  · exact e1
  · cases z
theorem Good.units {C : Nat → Addr} {W : WX} {n : Nat} {g : G} {cc : CC} {X : Cx} (G : Good C W n g cc X) : X.A.units + 200 < cLine := by
  have := G.room.un; omega
/-! ### targets -/
def chkNm (cc : CC) (i : Nat) : Expr → Bool
  | .Name y _ => decide (cc.N[i]? = some y) && loc cc.sc y
  | _ => false
def chkTg (cc : CC) : Tg → Expr → Bool
  | .nm i, x => chkNm cc i x
  | .tp is, .Tuple xs _ _ => all2 (chkNm cc) is xs && decide is.Nodup
  | _, _ => false
def tgIs : Tg → List Nat
  | .nm i => [i]
  | .tp is => is
/-- a target is given what v stands for -/
def gTg (T : Pgm) : Tg → TG
  | .nm i => gName i
  | .tp is => fun v σ H Q => ∃ a xs, v = .ref a ∧ SqT T.K H a xs ∧ xs.length = is.length ∧ Q ((is.zip xs).foldl (fun σ p => σ.set p.1 (some p.2)) σ) H
section
variable {C : Nat → Addr} {W : WX} {n : Nat} {g : G} {cc : CC} {X : Cx}
theorem pg_nm (G : Good C W n g cc X) {i : Nat} {x : Expr} (h : chkNm cc i x = true) : PG X x (gName i) := by
  cases x with
  | Name y p =>
    obtain ⟨h1, h2⟩ := Bool.and_eq_true_iff.mp (show (decide (cc.N[i]? = some y) && loc cc.sc y) = true from h)
    have h1' : X.N[i]? = some y := by rw [G.hN]; exact of_decide_eq_true h1
    exact pg_name (by rw [G.hN]; exact G.nd) h1' (G.sc.loc h2) (G.fn y h2)
  | _ => cases h
def gAll : List Nat → TGs
  | [] => gNil
  | i :: is => gCons (gName i) (gAll is)
theorem gAll_of (is : List Nat) (xs : List V) (σ : L2.St) (H : Hp) (Q : L2.St → Hp → Prop) (hl : xs.length = is.length) (q : Q ((is.zip xs).foldl (fun σ p => σ.set p.1 (some p.2)) σ) H) : gAll is xs σ H Q := by
  induction is generalizing xs σ with
  | nil =>
    cases xs with
    | nil => exact ⟨rfl, q⟩
    | cons x r => cases hl
  | cons i is ih =>
    cases xs with
    | nil => cases hl
    | cons x r => exact ⟨x, r, rfl, ih r _ (by simpa using hl) q⟩
theorem pgs_nms (G : Good C W n g cc X) : ∀ (is : List Nat) (xs : List Expr), all2 (chkNm cc) is xs = true → PGs X xs (gAll is) ∧ (assignEach xs X.env).length = is.length ∧ (assignEach xs X.env).findIdx? (·.1) = none
  | [], [], _ => ⟨pgs_nil, rfl, rfl⟩
  | [], _ :: _, h => by cases h
  | _ :: _, [], h => by cases h
  | i :: is, x :: xs, h => by
    obtain ⟨h1, h2⟩ := Bool.and_eq_true_iff.mp (show (chkNm cc i x && all2 (chkNm cc) is xs) = true from h)
    obtain ⟨a1, a2, a3⟩ := pgs_nms G is xs h2
    have hx := pg_nm G h1
    cases x with
    | Name y p =>
      refine ⟨pgs_cons hx a1 rfl, ?_, ?_⟩
      · show (assignEach xs X.env).length + 1 = is.length + 1
        rw [a2]
      · show List.findIdx? (·.1) ((false, _) :: assignEach xs X.env) = none
        rw [List.findIdx?_cons, a3]; rfl
    | _ => cases h1
theorem pg_tg (G : Good C W n g cc X) {tg : Tg} {x : Expr} (h : chkTg cc tg x = true) : PG X x (gTg (tOf X C) tg) := by
  cases tg with
  | nm i => exact pg_nm G h
  | tp is =>
    cases x with
    | Tuple xs k p =>
      obtain ⟨h1, h2⟩ := Bool.and_eq_true_iff.mp (show (all2 (chkNm cc) is xs && decide is.Nodup) = true from h)
      obtain ⟨a1, a2, a3⟩ := pgs_nms G is xs h1
      have base := pg_tup (k := k) (pos := p) G.calm a1 a2 a3
      refine ⟨fun pins s σ H v u Q I r hw => base.run pins s σ H v u Q I r ?_⟩
      obtain ⟨a, ys, rfl, q1, q2, q3⟩ := hw
      exact ⟨a, ys, rfl, q1, q2, gAll_of is ys σ H Q q2 q3⟩
    | _ => cases h
end
/-! ### slots -/
section
variable {T : Pgm} {H : Hp} {μ : List Addr} {σ : Slots} {ρ : Env}
theorem EnvOk.set {i : Nat} {d : D} {v : V} (h : EnvOk T H μ σ ρ) (r : Rep T H μ d v []) : EnvOk T H μ (σ.set i (some v)) (ρ.set i (some d)) := by
  refine ⟨by simp [h.1], fun j x e => ?_⟩
  by_cases hj : i = j
  · subst hj
    have hl : i < ρ.length := by
      have := (List.getElem?_eq_some_iff.mp e).1
      simpa using this
    rw [List.getElem?_set_self hl] at e
    cases e
    exact ⟨v, by rw [List.getElem?_set_self (by rw [h.1]; exact hl)], r⟩
  · rw [List.getElem?_set_ne hj] at e
    obtain ⟨w, e1, r1⟩ := h.2 j x e
    exact ⟨w, by rw [List.getElem?_set_ne hj]; exact e1, r1⟩
theorem EnvOk.drop {i : Nat} (h : EnvOk T H μ σ ρ) : EnvOk T H μ (σ.set i none) (ρ.set i none) := by
  refine ⟨by simp [h.1], fun j x e => ?_⟩
  by_cases hj : i = j
  · subst hj
    have hl : i < ρ.length := by
      have := (List.getElem?_eq_some_iff.mp e).1
      simpa using this
    rw [List.getElem?_set_self hl] at e
    cases e
  · rw [List.getElem?_set_ne hj] at e
    obtain ⟨w, e1, r1⟩ := h.2 j x e
    exact ⟨w, by rw [List.getElem?_set_ne hj]; exact e1, r1⟩
theorem EnvOk.names : ∀ (is : List Nat) (ds : List D) (vs : List V) (σ : Slots) (ρ ρ' : Env), EnvOk T H μ σ ρ → Reps T H μ ds vs [] → setNames is ds ρ = some ρ' → vs.length = is.length ∧ EnvOk T H μ ((is.zip vs).foldl (fun σ p => σ.set p.1 (some p.2)) σ) ρ'
  | [], [], vs, σ, ρ, ρ', h, r, e => by
    obtain ⟨rfl, _⟩ := r
    cases e; exact ⟨rfl, h⟩
  | [], _ :: _, _, _, _, _, _, _, e => by cases e
  | _ :: _, [], _, _, _, _, _, _, e => by cases e
  | i :: is, d :: ds, vs, σ, ρ, ρ', h, r, e => by
    obtain ⟨v, w, f1, f2, rfl, r1, r2, ef⟩ := r
    obtain ⟨rfl, rfl⟩ := List.append_eq_nil_iff.mp ef.symm
    obtain ⟨a1, a2⟩ := EnvOk.names is ds w (σ.set i (some v)) (ρ.set i (some d)) ρ' (h.set r1) r2 e
    exact ⟨by rw [List.length_cons, List.length_cons, a1], a2⟩
/-- a target is given a value -/
theorem setTg_ok {tg : Tg} {d : D} {v : V} {fp : List Addr} {S S' : Sto} {ρ' : Env} {Q : L2.St → Hp → Prop} (env : EnvOk T H μ σ ρ) (ok : StOk T H μ S) (r : Rep T H μ d v fp) (nd : (μ ++ fp).Nodup) (e : setTg tg d ρ S = some (ρ', S'))
    (q : ∀ σ', EnvOk T H (μ ++ fp) σ' ρ' → StOk T H (μ ++ fp) S' → (∀ vs : List Nat, (∀ i ∈ tgIs tg, i ∈ vs) → wipe σ' vs = wipe σ vs) → Q σ' H) : gTg T tg v σ H Q := by
  have env' : EnvOk T H (μ ++ fp) σ ρ := ⟨env.1, fun i x h => by
    obtain ⟨w, h1, h2⟩ := env.2 i x h
    exact ⟨w, h1, Rep.widen (Rep.kinds d v fp r) _ _ _ h2⟩⟩
  have wp : ∀ (σ : L2.St) (i : Nat) (x : Option V) (vs : List Nat), i ∈ vs → wipe (σ.set i x) vs = wipe σ vs := fun σ i x vs => by
    induction vs with
    | nil => intro h; cases h
    | cons j vs ih =>
      intro h
      unfold wipe
      by_cases hj : i ∈ vs
      · rw [ih hj]
      · have hij : i = j := (List.mem_cons.mp h).resolve_right hj
        subst hij
        have comm : ∀ (vs : List Nat) (σ : L2.St), i ∉ vs → wipe (σ.set i x) vs = (wipe σ vs).set i x := fun vs => by
          induction vs with
          | nil => intro σ _; rfl
          | cons k vs ihv =>
            intro σ hk
            unfold wipe
            have h1 : i ≠ k := fun e => hk (by rw [e]; exact List.mem_cons_self)
            rw [ihv σ fun m => hk (List.mem_cons_of_mem _ m), List.set_comm _ _ h1]
        rw [comm vs σ hj, List.set_set]
  cases tg with
  | nm i =>
    obtain ⟨h1, h2⟩ := settle_ok d v fp μ S r ok nd
    cases e
    exact q _ (env'.set h1) h2 fun vs h => wp σ i _ vs (h i (by simp [tgIs]))
  | tp is =>
    cases d with
    | tup ds =>
      obtain ⟨a, vs, rfl, sq, rs⟩ := r
      obtain ⟨h1, h2⟩ := settles_ok ds vs fp μ S rs ok nd
      obtain ⟨ρ1, e1, e2⟩ := Option.map_eq_some_iff.mp (show (setNames is (settles ds S).1 ρ).map (fun ρ' => (ρ', (settles ds S).2)) = some (ρ', S') from e)
      cases e2
      obtain ⟨b1, b2⟩ := EnvOk.names is _ vs σ ρ _ env' h1 e1
      refine ⟨a, vs, rfl, sq, b1, q _ b2 h2 fun ws h => ?_⟩
      have fold : ∀ (l : List (Nat × V)) (σ : L2.St), (∀ p ∈ l, p.1 ∈ ws) → wipe (l.foldl (fun σ p => σ.set p.1 (some p.2)) σ) ws = wipe σ ws := fun l => by
        induction l with
        | nil => intro σ _; rfl
        | cons p l ihl =>
          intro σ hp
          rw [List.foldl_cons, ihl _ fun p m => hp p (List.mem_cons_of_mem _ m), wp σ _ _ _ (hp p List.mem_cons_self)]
      exact fold _ σ fun p m => h p.1 (List.of_mem_zip m).1
    | _ => cases e
end
end Ev
end
section
set_option Elab.async false
set_option linter.all false
set_option maxRecDepth 100000
namespace Ev
open PySem PySem.Spec PyProof.Rows L2 PySem.SeqAt
/-! ### does the text say that -/
def cstOk : D → Const → Bool
  | .non, .none => true
  | .bl a, .bool b => a == b
  | .int a, .int b => decide (a = b)
  | .str a, .str b => decide (a = b)
  | _, _ => false
def scEq : D → D → Bool
  | .non, .non => true
  | .bl a, .bl b => a == b
  | .int a, .int b => decide (a = b)
  | .str a, .str b => decide (a = b)
  | _, _ => false
theorem scEq_ok {a b : D} (h : scEq a b = true) : a = b := by
  cases a <;> cases b <;> first
    | rfl
    | cases h
    | (have h' := eq_of_beq h; rw [h'])
    | (have h' := of_decide_eq_true h; rw [h'])
def noSlice : Expr → Bool
  | .Slice _ _ _ _ => false
  | _ => true
def noSet : Expr → Bool
  | .Set _ _ _ => false
  | _ => true
def noCall0 : Expr → Bool
  | .Call (.Name _ _) [] [] _ => false
  | _ => true
theorem plain_ix {b : Expr} (h : noSlice b = true) : PlainIx b := fun o i => by
  cases b <;> first | rfl | cases h
theorem no_mark {op : CmpOp} {b : Expr} (h : noSet b = true) : behindInMarks op b = false := by
  cases b <;> first | rfl | cases h
theorem folded {e : Expr} {env : PySem.Env} (h : noSet e = true) : ∀ x, foldedSetIterable e env x = pure x := fun x => by
  cases e <;> first | rfl | cases h
theorem attr_base {o : Expr} {a : Str} {env : PySem.Env} (h : noCall0 o = true) : attributeBase o a env (eval o env) = eval o env := by
  unfold attributeBase
  split
  · cases h
  · rfl
def chkTy (cc : CC) (t : Ty) : Expr → Bool
  | .Name x _ => glob cc.sc x && (match t with | .cls c => decide (cc.cnames[c]? = some x) | t => decide (x = tyNm t))
  | _ => false
def chkTs (cc : CC) : List Ty → Expr → Bool
  | ts, .Tuple xs _ _ => !ts.isEmpty && all2 (chkTy cc) ts xs && decide (xs.length ≤ 1000)
  | [t], x => chkTy cc t x
  | _, _ => false
def ownOf : Tg → Expr → List (Str × Nat)
  | .nm i, .Name x _ => [(x, i)]
  | .tp is, .Tuple xs _ _ => (xs.zip is).filterMap fun p => match p.1 with | .Name x _ => some (x, p.2) | _ => none
  | _, _ => []
def isTupT : Expr → Bool
  | .Tuple _ _ _ => true
  | _ => false
def chkE : Nat → CC → PE → Expr → Bool
  | 0, _, _, _ => false
  | n + 1, cc, .var i, .Name x _ => decide (cc.N[i]? = some x) && vis cc.sc x && decide (x ≠ "__debug__") && decide (x ≠ "__classdict__")
  | n + 1, cc, .cst d, .Constant c _ _ => cstOk d c
  | n + 1, cc, .cst d, .Name x _ => glob cc.sc x && (match cc.consts.lookup x with | some d' => scEq d d' | none => false)
  | n + 1, cc, .tup es, .Tuple xs _ _ => all2 (chkE n cc) es xs && xs.all noStar && decide (xs.length ≤ 1000)
  | n + 1, cc, .lst es, .List xs _ => all2 (chkE n cc) es xs && xs.all noStar && decide (xs.length ≤ 1000)
  | n + 1, cc, .dct0, .Dict [] [] _ => true
  | n + 1, cc, .bin o a b, .BinOp x op y _ => decide (op = opOf o) && chkE n cc a x && chkE n cc b y
  | n + 1, cc, .neg a, .UnaryOp .USub x _ => chkE n cc a x
  | n + 1, cc, .not a, .UnaryOp .Not x _ => chkE n cc a x
  | n + 1, cc, .and a b, .BoolOp .And (x :: y :: rest) p => chkE n cc a x && (match rest with | [] => chkE n cc b y | _ => chkE n cc b (.BoolOp .And (y :: rest) p))
  | n + 1, cc, .or a b, .BoolOp .Or (x :: y :: rest) p => chkE n cc a x && (match rest with | [] => chkE n cc b y | _ => chkE n cc b (.BoolOp .Or (y :: rest) p))
  | n + 1, cc, .cmp o a b, .Compare x [op] [y] _ => decide (op = cOf o) && chkE n cc a x && chkE n cc b y && noSet y
  | n + 1, cc, .cmp2 o o' a b c, .Compare x [op, op'] [y, z] _ => decide (op = cOf o) && decide (op' = cOf o') && chkE n cc a x && chkE n cc b y && chkE n cc c z && noSet z
  | n + 1, cc, .is_ ng a c, .Compare x [op] [.Constant k _ _] _ => decide (op = if ng then .IsNot else .Is) && chkE n cc a x && cstOk c k
  | n + 1, cc, .ife c a b, .IfExp x y z _ => chkE n cc c x && chkE n cc a y && chkE n cc b z
  | n + 1, cc, .idx a i, .Subscript x y _ => chkE n cc a x && chkE n cc i y && noSlice y
  | n + 1, cc, .sl a lo hi, .Subscript x (.Slice l h none _) _ => chkE n cc a x && (match l with | some l => chkE n cc lo l | none => (match lo with | .cst .non => true | _ => false)) && (match h with | some h => chkE n cc hi h | none => (match hi with | .cst .non => true | _ => false))
  | n + 1, cc, .call f es, .Call (.Name x _) (y :: ys) [] _ => glob cc.sc x && decide (cc.fnames[f]? = some x) && all2 (chkE n cc) es (y :: ys) && (y :: ys).all noStar
  | n + 1, cc, .blt b es, .Call (.Name x _) (y :: ys) [] _ => glob cc.sc x && decide (x = bNm b) && all2 (chkE n cc) es (y :: ys) && (y :: ys).all noStar
  | n + 1, cc, .mth m o es, .Call (.Attribute x nm apos) ys [] cpos => decide (nm = mNm m) && chkE n cc o x && all2 (chkE n cc) es ys && ys.all noStar && noCall0 x && decide (ys.length < 20) && (apos.endLine == cpos.line)
  | n + 1, cc, .isi a ts, .Call (.Name x _) [y, t] [] _ => glob cc.sc x && decide (x = "isinstance") && chkE n cc a y && noStar y && noStar t && chkTs cc ts t
  | n + 1, cc, .comp tg k es ifs elt, .ListComp y [⟨tgx, iter, ifsx, 0⟩] scope _ =>
    (match k, es, iter with
      | .val, [e], x => chkE n cc e x
      | .rng1, [e], .Call (.Name nm _) [x] [] _ => decide (nm = "range") && glob cc.sc nm && chkE n cc e x && noStar x
      | .rng2, [e, e'], .Call (.Name nm _) [x, x'] [] _ => decide (nm = "range") && glob cc.sc nm && chkE n cc e x && noStar x && chkE n cc e' x' && noStar x'
      | .zip, [e, e'], .Call (.Name nm _) [x, x'] [] _ => decide (nm = "zip") && glob cc.sc nm && chkE n cc e x && noStar x && chkE n cc e' x' && noStar x' && isTupT tgx
      | _, _, _ => false) &&
    noSet iter && chkTg { cc with sc := scope } tg tgx && decide ((ownOf tg tgx).map (·.2) = tgIs tg) && blkC cc.N cc.sc scope (ownOf tg tgx) &&
    (match ifs, ifsx with | [], [] => true | [c], [cx] => chkE n { cc with sc := scope } c cx | _, _ => false) && chkE n { cc with sc := scope } elt y
  | _, _, _, _ => false
/-- the same of what a for walks -/
def chkI (n : Nat) (cc : CC) (k : ItK) (es : List PE) (tgx iter : Expr) : Bool := (match k, es, iter with
      | .val, [e], x => chkE n cc e x
      | .rng1, [e], .Call (.Name nm _) [x] [] _ => decide (nm = "range") && glob cc.sc nm && chkE n cc e x && noStar x
      | .rng2, [e, e'], .Call (.Name nm _) [x, x'] [] _ => decide (nm = "range") && glob cc.sc nm && chkE n cc e x && noStar x && chkE n cc e' x' && noStar x'
      | .zip, [e, e'], .Call (.Name nm _) [x, x'] [] _ => decide (nm = "zip") && glob cc.sc nm && chkE n cc e x && noStar x && chkE n cc e' x' && noStar x' && isTupT tgx
      | _, _, _ => false)
/-! ### truth -/
section
variable {T : Pgm} {H : Hp} {μ : List Addr} {S : Sto}
theorem tru_d {d : D} {v : V} {fp : List Addr} {b : Bool} (ok : StOk T H μ S) (r : Rep T H μ d v fp) (e : truth S d = some b) : TruV T.K v H b := by
  have lists : ∀ ds : List D, listOf S d = some ds → b = !ds.isEmpty → TruV T.K v H b := fun ds h1 h2 => by
    obtain ⟨a, vs, f1, rfl, sq, rs, _⟩ := list_at ok r h1
    refine .inl ⟨vs, sq, ?_⟩
    have := Reps.len _ _ _ rs
    rw [h2]
    cases vs <;> cases ds <;> first | rfl | cases this
  unfold truth at e
  split at e
  · cases e; obtain ⟨rfl, _⟩ := r; rfl
  · cases e; obtain ⟨rfl, _⟩ := r; rfl
  · cases e; obtain ⟨rfl, _⟩ := r; rfl
  · split at e
    · rename_i hl
      cases e; obtain ⟨rfl, _⟩ := r
      refine ⟨hl, ?_⟩
      rename_i x _
      by_cases h0 : x.length = 0
      · simp [h0]
      · have : ((x.length : Int) != 0) = true := by
          rw [bne_iff_ne]; omega
        rw [this]
        simp [h0]
    · cases e
  · cases e
    obtain ⟨a, vs, rfl, sq, rs⟩ := r
    refine .inr (.inl ⟨vs, sq, ?_⟩)
    have := Reps.len _ _ _ rs
    rename_i ds
    cases vs <;> cases ds <;> first | rfl | cases this
  · split at e
    · cases e
      exact lists _ (by assumption) rfl
    · cases e
end
section
variable {T : Pgm} {W : WX} {σ : Slots} {H : Hp} {μ : List Addr}
theorem Ran.test {m : Option (R D)} {Q : Bool → Sto → Prop} (h : Ran T W σ H μ (testE m) Q) : Ran T W σ H μ m fun d S => ∃ b, truth S d = some b ∧ Q b S := by
  match m, h with
  | some (.ok d S), h =>
    have h' : Ran T W σ H μ (match truth S d with | some b => some (.ok b S) | none => none) Q := h
    show ∃ b, truth S d = some b ∧ Q b S
    cases e : truth S d with
    | none => rw [e] at h'; exact h'.elim
    | some b => rw [e] at h'; exact ⟨b, rfl, h'⟩
  | some (.ex c S), h => exact h
theorem Ran.to_test {m : Option (R D)} {Q : Bool → Sto → Prop} (h : Ran T W σ H μ m fun d S => ∃ b, truth S d = some b ∧ Q b S) : Ran T W σ H μ (testE m) Q := by
  match m, h with
  | some (.ok d S), h =>
    obtain ⟨b, e, q⟩ := h
    show Ran T W σ H μ (match truth S d with | some b => some (.ok b S) | none => none) Q
    rw [e]; exact q
  | some (.ex c S), h => exact h
theorem Ran.tests {α : Type} {m : Option (R D)} {f : Bool → Sto → Option (R α)} {Q : α → Sto → Prop} (h : Ran T W σ H μ (tests m f fun c S => some (.ex c S)) Q) : Ran T W σ H μ (testE m) fun b S => Ran T W σ H μ (f b S) Q := by
  match m, h with
  | some (.ok d S), h =>
    have h' : Ran T W σ H μ (match truth S d with | some b => f b S | none => none) Q := h
    show Ran T W σ H μ (match truth S d with | some b => some (.ok b S) | none => none) _
    cases e : truth S d with
    | none => rw [e] at h'; exact h'.elim
    | some b => rw [e] at h'; exact h'
  | some (.ex c S), h => exact h
theorem evT1 {g : G} {a : PE} {ρ : Env} {S : Sto} (env : EnvOk T H μ σ ρ) (st : StOk T H μ S) {K : Bool → Sto → Prop} {Q : Bool → Hp → Prop} (h : Ran T W σ H μ (testE (evalE g a ρ S)) K)
    (f : ∀ b S1 H1 μ1, Stp H μ H1 μ1 → StOk T H1 μ1 S1 → K b S1 → Q b H1) : tEvT T W g a σ H Q :=
  ⟨ρ, S, μ, env, st, h.imp fun b S1 _ k H1 μ1 s o => f b S1 H1 μ1 s o k⟩
end
end Ev
end
section
set_option Elab.async false
set_option linter.all false
set_option maxRecDepth 100000
namespace Ev
open PySem PySem.Spec PyProof.Rows L2 PySem.SeqAt
section
variable {T : Pgm} {H H1 : Hp} {μ μ1 : List Addr} {S1 : Sto} {Q : VK} {z : D}
theorem fin_outs {ds : List D} {vs : List V} {fp : List Addr} (p : Psts T H μ ds S1 vs H1 μ1 fp) (k : Fin1 T H μ Q z S1) : Out T H1 μ1 S1 z fp Q := fun v H' fp' s r nd ow =>
  k v H' μ1 fp' ⟨p.stp.trans (Same.stp s), StOk.same s p.ok, r, nd, fun a m => (ow a m).elim (p.new a) p.stp.free⟩
theorem fin_out1 {d : D} {v0 : V} {fp : List Addr} (p : Pst T H μ d S1 v0 H1 μ1 fp) (k : Fin1 T H μ Q z S1) : Out T H1 μ1 S1 z fp Q := fun v H' fp' s r nd ow =>
  k v H' μ1 fp' ⟨p.stp.trans (Same.stp s), StOk.same s p.ok, r, nd, fun a m => (ow a m).elim (p.new a) p.stp.free⟩
theorem fin_scal {d : D} {v0 : V} {fp : List Addr} (p : Pst T H μ d S1 v0 H1 μ1 fp) (k : Fin1 T H μ Q z S1) {v : V} (r : Rep T H1 μ1 z v []) : Q v H1 := k v H1 μ1 [] (Pst.flat p.stp p.ok r)
theorem fin_scals {ds : List D} {vs : List V} {fp : List Addr} (p : Psts T H μ ds S1 vs H1 μ1 fp) (k : Fin1 T H μ Q z S1) {v : V} (r : Rep T H1 μ1 z v []) : Q v H1 := k v H1 μ1 [] (Pst.flat p.stp p.ok r)
end
theorem evalEs_len {g : G} : ∀ (es : List PE) (ρ : Env) (S : Sto) (ds : List D) (S1 : Sto), evalEs g es ρ S = some (.ok ds S1) → ds.length = es.length
  | [], ρ, S, ds, S1, h => by
    unfold evalEs at h
    cases h; rfl
  | e :: es, ρ, S, ds, S1, h => by
    unfold evalEs at h
    cases h1 : evalE g e ρ S with
    | none => rw [h1] at h; cases h
    | some r =>
      cases r with
      | ex c S' => rw [h1] at h; cases h
      | ok d S' =>
        rw [h1, bnd_ok] at h
        cases h2 : evalEs g es ρ S' with
        | none => rw [h2] at h; cases h
        | some r =>
          cases r with
          | ex c S'' => rw [h2] at h; cases h
          | ok ds' S'' =>
            rw [h2, bnd_ok] at h
            cases h
            rw [List.length_cons, List.length_cons, evalEs_len es ρ S' ds' _ h2]
section
variable {X : Cx} {C : Nat → Addr} {W : WX} {n : Nat} {g : G} {cc : CC}
theorem s_var {i : Nat} {x : Str} {p : Pos} (h1 : X.N[i]? = some x) (h2 : Vis X.env.scope x) (h3 : (x == ("__debug__" : Str)) = false) (h4 : (x == ("__classdict__" : Str)) = false) : L2.PE X (.Name x p) (tEv (tOf X C) W g (.var i)) := by
  refine PE.mono (pe_var h1 h2 h3 h4) fun σ H Q ⟨ρ, S, μ, env, st, h⟩ => ?_
  unfold evalE at h
  cases e : ρ[i]? with
  | none => rw [e] at h; exact h.elim
  | some o =>
    cases o with
    | none => rw [e] at h; exact h.elim
    | some d =>
      rw [e] at h
      obtain ⟨v, e1, r⟩ := env.2 i d e
      exact ⟨v, e1, h v H μ [] (Pst.flat Stp.refl st r)⟩
theorem s_val {x : Expr} {d : D} {v : V} (h : L2.PE X x (tC v)) (r : scalV d v) : L2.PE X x (tEv (tOf X C) W g (.cst d)) := by
  refine PE.mono h fun σ H Q ⟨ρ, S, μ, env, st, k⟩ => ?_
  unfold evalE at k
  exact k v H μ [] (Pst.flat Stp.refl st r.rep)
theorem pas : ∀ (es : List PE) (xs : List Expr), all2 (fun e x => decide True) es xs = true → (∀ (i : Nat) e x, es[i]? = some e → xs[i]? = some x → L2.PE X x (tEv (tOf X C) W g e)) → xs.all noStar = true → PA X xs (tEvs (tOf X C) W g es)
  | [], [], _, _, _ => by
    refine PA.mono pa_nil fun σ H Q ⟨ρ, S, μ, env, st, h⟩ => ?_
    unfold evalEs at h
    exact h [] H μ [] ⟨Stp.refl, st, ⟨rfl, rfl⟩, by simpa using st.nd, by simp⟩
  | [], _ :: _, h, _, _ => by cases h
  | _ :: _, [], h, _, _ => by cases h
  | e :: es, x :: xs, h, hp, hs => by
    rw [List.all_cons, Bool.and_eq_true] at hs
    have ih := pas es xs (Bool.and_eq_true_iff.mp h).2 (fun i e x h1 h2 => hp (i + 1) e x (by simpa using h1) (by simpa using h2)) hs.2
    refine PA.mono (pa_cons (hp 0 e x rfl rfl) ih (star_of hs.1)) fun σ H Q ⟨ρ, S, μ, env, st, h⟩ => ?_
    unfold evalEs at h
    refine ev1 env st h.bnd fun d S1 v H1 μ1 f1 p1 k => ?_
    refine ⟨ρ, S1, μ1, env.keep st.kinds p1.stp, p1.ok, (k.on p1.stp).bnd.imp fun ds S2 _ k2 vs H2 μ2 f2 p2 => ?_⟩
    have r1 : Rep (tOf X C) H2 μ2 d v f1 := Rep.keep p1.ok.kinds p2.stp d v f1 p1.rep (nd_out p1.nd)
    refine k2 (v :: vs) H2 μ2 (f1 ++ f2) ⟨p1.stp.trans p2.stp, p2.ok, ⟨v, vs, f1, f2, rfl, r1, p2.rep, rfl⟩, nd_step p2.stp p1.nd p2.nd (Rep.there d v f1 p1.rep) p2.new, fun a m => ?_⟩
    rcases List.mem_append.mp m with m | m
    · exact p1.new a m
    · exact p1.stp.free (p2.new a m)
variable {a b c : PE} {x y : Expr} {p : Pos}
theorem s_tup {es : List PE} {xs : List Expr} {k : Nat} (h : PA X xs (tEvs (tOf X C) W g es)) (hl : xs.length ≤ 1000) (hls : xs.length = es.length) : L2.PE X (.Tuple xs k p) (tEv (tOf X C) W g (.tup es)) := by
  refine PE.mono (pe_tup h) fun σ H Q ⟨ρ, S, μ, env, st, h⟩ => ?_
  unfold evalE at h
  refine evse env st h.bnd fun ds S1 vs H1 μ1 fp e1 p1 k1 => ?_
  have hlen : ds.length = es.length := evalEs_len es ρ S ds S1 e1
  refine ⟨by rw [Reps.len _ _ _ p1.rep, hlen, ← hls]; exact Nat.le_trans hl (by decide), out_tup (S := S1) p1.rep p1.nd (fun a m => m) (fin_outs p1 k1)⟩
theorem s_lst {es : List PE} {xs : List Expr} (h : PA X xs (tEvs (tOf X C) W g es)) (hl : xs.length ≤ 1000) (hls : xs.length = es.length) : L2.PE X (.List xs p) (tEv (tOf X C) W g (.lst es)) := by
  refine PE.mono (pe_lst h) fun σ H Q ⟨ρ, S, μ, env, st, h⟩ => ?_
  unfold evalE at h
  refine evse env st h.bnd fun ds S1 vs H1 μ1 fp e1 p1 k1 => ?_
  have hlen : ds.length = es.length := evalEs_len es ρ S ds S1 e1
  refine ⟨by rw [Reps.len _ _ _ p1.rep, hlen, ← hls]; exact Nat.le_trans hl (by decide), out_lst p1.ok p1.rep p1.nd (fun a m => m) (fin_outs p1 k1)⟩
theorem s_dct0 : L2.PE X (.Dict [] [] p) (tEv (tOf X C) W g .dct0) := by
  refine PE.mono pe_dnewK fun σ H Q ⟨ρ, S, μ, env, st, h⟩ => ?_
  unfold evalE at h
  intro d nd
  have sm : Same H (upd H d (.dK [])) := Same.upd nd
  refine h _ _ μ [d] ⟨Same.stp sm, StOk.same sm st, ⟨d, [], [], rfl, ⟨[], upd_same, rfl, rfl, List.nodup_nil⟩, ⟨rfl, rfl⟩, rfl⟩, ?_, fun a m => ?_⟩
  · refine List.nodup_append.mpr ⟨st.nd, by simp, fun a ha b hb e => ?_⟩
    have : b = d := by simpa using hb
    subst this; subst e
    rcases st.kinds a ha with ⟨_, z⟩ | ⟨_, z⟩ | ⟨_, z⟩ <;> (rw [nd] at z; cases z)
  · have : a = d := by simpa using m
    subst this; exact nd
theorem s_bin {o : Bin} (ha : L2.PE X x (tEv (tOf X C) W g a)) (hb : L2.PE X y (tEv (tOf X C) W g b)) : L2.PE X (.BinOp x (opOf o) y p) (tEv (tOf X C) W g (.bin o a b)) := by
  refine PE.mono (pe_op (op_bin (C := C) o) ha hb) fun σ H Q ⟨ρ, S, μ, env, st, h⟩ => ?_
  unfold evalE at h
  refine ev2 env st (h.bnd.imp fun x S1 _ k => k.bnd) fun d e S2 u v H2 μ2 f1 f2 p2 r1 r2 k => ?_
  obtain ⟨z, e1, k1⟩ := k.map
  exact ⟨d, e, S2, μ2, f1, f2, z, ⟨r1, r2, p2.ok, p2.nd⟩, e1, fin_outs p2 k1⟩
theorem s_neg (ha : L2.PE X x (tEv (tOf X C) W g a)) : L2.PE X (.UnaryOp .USub x p) (tEv (tOf X C) W g (.neg a)) := by
  refine PE.mono (pe_un un_neg ha) fun σ H Q ⟨ρ, S, μ, env, st, h⟩ => ?_
  unfold evalE at h
  refine ev1 env st h.bnd fun d S1 v H1 μ1 fp p1 k => ?_
  cases d with
  | int i =>
    obtain ⟨rfl, rfl⟩ := p1.rep
    exact ⟨i, rfl, fin_scal p1 k ⟨rfl, rfl⟩⟩
  | _ => exact k.elim
theorem s_not (ha : L2.PE X x (tEv (tOf X C) W g a)) : L2.PE X (.UnaryOp .Not x p) (tEv (tOf X C) W g (.not a)) := by
  refine PE.mono (pe_notT ha) fun σ H Q ⟨ρ, S, μ, env, st, h⟩ => ?_
  unfold evalE at h
  refine ev1 env st h.tests.test fun d S1 v H1 μ1 fp p1 ⟨t, e, k⟩ => ?_
  exact ⟨t, tru_d p1.ok p1.rep e, fin_scal p1 k ⟨rfl, rfl⟩⟩
theorem s_and {rest : List Expr} (ha : L2.PE X x (tEv (tOf X C) W g a)) (hb : L2.PE X (.BoolOp .And (y :: rest) p) (tEv (tOf X C) W g b)) : L2.PE X (.BoolOp .And (x :: y :: rest) p) (tEv (tOf X C) W g (.and a b)) := by
  refine PE.mono (pe_andT ha hb) fun σ H Q ⟨ρ, S, μ, env, st, h⟩ => ?_
  unfold evalE at h
  refine ev1 env st h.bnd fun d S1 v H1 μ1 fp p1 k => ?_
  cases e : truth S1 d with
  | none => rw [e] at k; exact k.elim
  | some t =>
    rw [e] at k
    refine ⟨t, tru_d p1.ok p1.rep e, ?_⟩
    cases t with
    | true =>
      rw [if_pos rfl]
      refine ⟨ρ, S1, μ1, env.keep st.kinds p1.stp, p1.ok, (k.on p1.stp).imp fun z S2 _ k2 v2 H2 μ2 f2 p2 => k2 v2 H2 μ2 f2 ⟨p1.stp.trans p2.stp, p2.ok, p2.rep, p2.nd, fun a m => p1.stp.free (p2.new a m)⟩⟩
    | false =>
      rw [if_neg (by decide)]
      exact k v H1 μ1 fp p1
theorem s_or {rest : List Expr} (ha : L2.PE X x (tEv (tOf X C) W g a)) (hb : L2.PE X (.BoolOp .Or (y :: rest) p) (tEv (tOf X C) W g b)) : L2.PE X (.BoolOp .Or (x :: y :: rest) p) (tEv (tOf X C) W g (.or a b)) := by
  refine PE.mono (pe_orT ha hb) fun σ H Q ⟨ρ, S, μ, env, st, h⟩ => ?_
  unfold evalE at h
  refine ev1 env st h.bnd fun d S1 v H1 μ1 fp p1 k => ?_
  cases e : truth S1 d with
  | none => rw [e] at k; exact k.elim
  | some t =>
    rw [e] at k
    refine ⟨t, tru_d p1.ok p1.rep e, ?_⟩
    cases t with
    | false =>
      rw [if_neg (by decide)]
      refine ⟨ρ, S1, μ1, env.keep st.kinds p1.stp, p1.ok, (k.on p1.stp).imp fun z S2 _ k2 v2 H2 μ2 f2 p2 => k2 v2 H2 μ2 f2 ⟨p1.stp.trans p2.stp, p2.ok, p2.rep, p2.nd, fun a m => p1.stp.free (p2.new a m)⟩⟩
    | true =>
      rw [if_pos rfl]
      exact k v H1 μ1 fp p1
end
end Ev
end
section
set_option Elab.async false
set_option linter.all false
set_option maxRecDepth 100000
namespace Ev
open PySem PySem.Spec PyProof.Rows L2 PySem.SeqAt
section
variable {X : Cx} {C : Nat → Addr} {W : WX} {n : Nat} {g : G} {cc : CC} {a b c : PE} {x y z : Expr} {p : Pos}
theorem s_cmp {o : Cmp} (hu : X.A.units + 200 < cLine) (ha : L2.PE X x (tEv (tOf X C) W g a)) (hb : L2.PE X y (tEv (tOf X C) W g b)) (hy : noSet y = true) : L2.PE X (.Compare x [cOf o] [y] p) (tEv (tOf X C) W g (.cmp o a b)) := by
  refine PE.mono (pe_cmpR (op_cmp (C := C) hu o) ha hb (no_mark hy)) fun σ H Q ⟨ρ, S, μ, env, st, h⟩ => ?_
  unfold evalE at h
  refine ev2 env st (h.bnd.imp fun x S1 _ k => k.bnd) fun d e S2 u v H2 μ2 f1 f2 p2 r1 r2 k => ?_
  obtain ⟨t, e1, k1⟩ := k.map
  exact ⟨d, e, S2, μ2, f1, f2, t, ⟨r1, r2, p2.ok, p2.nd⟩, e1, fin_scals p2 k1 ⟨rfl, rfl⟩⟩
theorem tst_cmp {o : Cmp} (hu : X.A.units + 200 < cLine) (ha : L2.PE X x (tEv (tOf X C) W g a)) (hb : L2.PE X y (tEv (tOf X C) W g b)) (hy : noSet y = true) : PT X (.Compare x [cOf o] [y] p) (tEvT (tOf X C) W g (.cmp o a b)) := by
  refine PT.mono (pt_cmpR (op_cmp (C := C) hu o) ha hb (no_mark hy)) fun σ H Q ⟨ρ, S, μ, env, st, h⟩ => ?_
  have h := h.test
  unfold evalE at h
  refine ev2 env st (h.bnd.imp fun x S1 _ k => k.bnd) fun d e S2 u v H2 μ2 f1 f2 p2 r1 r2 k => ?_
  obtain ⟨t, e1, b', eb, k1⟩ := k.map
  have eb' : b' = t := by cases eb; rfl
  subst eb'
  exact ⟨d, e, S2, μ2, f1, f2, b', ⟨r1, r2, p2.ok, p2.nd⟩, e1, b', rfl, k1 H2 μ2 p2.stp p2.ok⟩
/-- the chain, whatever is made of its end -/
theorem chain_of {o o' : Cmp} {σ : Slots} {H : Hp} {μ : List Addr} {ρ : Env} {S : Sto} {Q : VK} {K : Bool → Sto → Prop} (env : EnvOk (tOf X C) H μ σ ρ) (st : StOk (tOf X C) H μ S)
    (h : Ran (tOf X C) W σ H μ (evalE g (.cmp2 o o' a b c) ρ S) fun d S' => ∃ t, d = .bl t ∧ K t S') (fin : ∀ t S' H' μ', Stp H μ H' μ' → StOk (tOf X C) H' μ' S' → K t S' → Q (.bl t) H') :
    tChain (rCmp (tOf X C) o) (rCmp (tOf X C) o') (tEv (tOf X C) W g a) (tEv (tOf X C) W g b) (tEv (tOf X C) W g c) σ H Q := by
  unfold evalE at h
  refine ev2 env st (h.bnd.imp fun x S1 _ k => k.bnd) fun d e S2 u v H2 μ2 f1 f2 p2 r1 r2 k => ?_
  cases hc : cmpE S2 o d e with
  | none => rw [hc] at k; exact k.elim
  | some t =>
    rw [hc] at k
    refine ⟨d, e, S2, μ2, f1, f2, t, ⟨r1, r2, p2.ok, p2.nd⟩, hc, t, rfl, ?_⟩
    cases t with
    | false =>
      rw [if_neg (by decide)]
      obtain ⟨t', et, k'⟩ := k
      cases et
      exact fin false S2 H2 μ2 p2.stp p2.ok k'
    | true =>
      rw [if_pos rfl]
      have k2 : Ran (tOf X C) W σ H μ (bnd (evalE g c ρ S2) fun z S => (cmpE S o' e z).map fun u => R.ok (D.bl u) S) fun d S' => ∃ t, d = D.bl t ∧ K t S' := k
      refine ev1 (env.keep st.kinds p2.stp) p2.ok (k2.on p2.stp).bnd fun z S3 w H3 μ3 f3 p3 k3 => ?_
      obtain ⟨t', e1, t2, et, k4⟩ := k3.map
      cases et
      have kd := p2.ok.kinds
      have r2' : Rep (tOf X C) H3 μ3 e v f2 := Rep.keep kd p3.stp e v f2 r2 fun a m => nd_out p2.nd a (List.mem_append_right _ m)
      have nd2 : (μ2 ++ f2).Nodup := nd_sub p2.nd (List.sublist_append_right _ _)
      exact ⟨e, z, S3, μ3, f2, f3, _, ⟨r2', p3.rep, p3.ok, nd_step p3.stp nd2 p3.nd (Rep.there e v f2 r2) p3.new⟩, e1, fin _ S3 H3 μ3 (p2.stp.trans p3.stp) p3.ok k4⟩
theorem cmp2_bl {o o' : Cmp} {ρ : Env} {S : Sto} {T : Pgm} {σ : Slots} {H : Hp} {μ : List Addr} {Q : D → Sto → Prop} (h : Ran T W σ H μ (evalE g (.cmp2 o o' a b c) ρ S) Q) : Ran T W σ H μ (evalE g (.cmp2 o o' a b c) ρ S) fun d S' => ∃ t, d = .bl t ∧ Q (.bl t) S' := by
  refine h.imp fun d S' e q => ?_
  have : ∃ t, d = .bl t := by
    unfold evalE at e
    cases h1 : evalE g a ρ S with
    | none => rw [h1] at e; cases e
    | some r =>
      cases r with
      | ex _ _ => rw [h1] at e; cases e
      | ok d1 S1 =>
        rw [h1, bnd_ok] at e
        cases h2 : evalE g b ρ S1 with
        | none => rw [h2] at e; cases e
        | some r =>
          cases r with
          | ex _ _ => rw [h2] at e; cases e
          | ok d2 S2 =>
            rw [h2, bnd_ok] at e
            cases hc : cmpE S2 o d1 d2 with
            | none => rw [hc] at e; cases e
            | some t =>
              cases t with
              | false => rw [hc] at e; cases e; exact ⟨false, rfl⟩
              | true =>
                rw [hc] at e
                cases h3 : evalE g c ρ S2 with
                | none => simp only [h3, bnd_none] at e; cases e
                | some r =>
                  cases r with
                  | ex _ _ => simp only [h3, bnd_ex] at e; cases e
                  | ok d3 S3 =>
                    simp only [h3, bnd_ok] at e
                    obtain ⟨u, _, eu⟩ := Option.map_eq_some_iff.mp e
                    cases eu; exact ⟨u, rfl⟩
  obtain ⟨t, rfl⟩ := this
  exact ⟨t, rfl, q⟩
theorem marks2 {op op' : CmpOp} {y z : Expr} (h : noSet z = true) : lastMarks [op, op'] [y, z] = false := by
  show behindInMarks op' z = false
  exact no_mark h
theorem s_cmp2 {o o' : Cmp} (hu : X.A.units + 200 < cLine) (ha : L2.PE X x (tEv (tOf X C) W g a)) (hb : L2.PE X y (tEv (tOf X C) W g b)) (hc : L2.PE X z (tEv (tOf X C) W g c)) (hz : noSet z = true) : L2.PE X (.Compare x [cOf o, cOf o'] [y, z] p) (tEv (tOf X C) W g (.cmp2 o o' a b c)) := by
  refine PE.mono (pe_chain (op_cmp (C := C) hu o) (op_cmp (C := C) hu o') ha hb hc (marks2 hz)) fun σ H Q ⟨ρ, S, μ, env, st, h⟩ => ?_
  exact chain_of env st (cmp2_bl h) fun t S' H' μ' s ok k => k _ H' μ' [] (Pst.flat s ok ⟨rfl, rfl⟩)
theorem tst_cmp2 {o o' : Cmp} (hu : X.A.units + 200 < cLine) (ha : L2.PE X x (tEv (tOf X C) W g a)) (hb : L2.PE X y (tEv (tOf X C) W g b)) (hc : L2.PE X z (tEv (tOf X C) W g c)) (hz : noSet z = true) : PT X (.Compare x [cOf o, cOf o'] [y, z] p) (tEvT (tOf X C) W g (.cmp2 o o' a b c)) := by
  refine PT.mono (pt_chain (op_cmp (C := C) hu o) (op_cmp (C := C) hu o') ha hb hc (marks2 hz)) fun σ H Q ⟨ρ, S, μ, env, st, h⟩ => ?_
  exact chain_of env st (cmp2_bl h.test) fun t S' H' μ' s ok ⟨t', e, k⟩ => ⟨t, rfl, by cases e; exact k H' μ' s ok⟩
/-! ### is -/
def rIsD' (T : Pgm) (ng : Bool) : R2 := fun x y H Q => ∃ d c μ fp b, Rep T H μ d x fp ∧ scalV c y ∧ isC ng c d = some b ∧ Q (.bl b) H
theorem op_isD (ng : Bool) : OpR X (compareOp (if ng then .IsNot else .Is)) (rIsD' (tOf X C) ng) := by
  intro pins s σ H x y v u Q I rx ry ⟨d, c, μ, fp, b, r, sc, e, q⟩
  have plain : ∀ (w : Value), plainIs v w = true → u = w → (∀ k, k = (if ng then !(v == w) else (v == w)) → k = b) → wpAny (model X.prog X.w) X.A (compareOp (if ng then .IsNot else .Is) v u) (EP X pins σ Q) X.xe s := fun w hp hw hk => by
    subst hw
    cases ng with
    | false => exact wpAny_is_plain hp ⟨.bl b, H, I, by rw [hk (v == u) rfl]; rfl, q⟩
    | true => exact wpAny_isNot_plain hp ⟨.bl b, H, I, by rw [hk (!(v == u)) rfl]; rfl, q⟩
  have refv : ∀ {a : Addr}, x = .ref a → v = .ref a := fun {a} h => by subst h; exact rx
  cases c with
  | non =>
    have ey : u = .none := by
      have : y = .non := sc
      subst this; exact ry
    cases d with
    | non =>
      obtain ⟨rfl, _⟩ := r
      cases (show v = Value.none from rx)
      cases e
      exact plain .none rfl ey fun k hk => by rw [hk]; cases ng <;> rfl
    | bl b1 =>
      obtain ⟨rfl, _⟩ := r
      cases (show v = Value.bool b1 from rx)
      cases e
      exact plain .none rfl ey fun k hk => by rw [hk]; cases ng <;> rfl
    | int i =>
      obtain ⟨rfl, _⟩ := r
      obtain ⟨t, rfl⟩ := rx
      cases e
      exact plain .none rfl ey fun k hk => by rw [hk]; cases ng <;> rfl
    | str i =>
      obtain ⟨rfl, _⟩ := r
      obtain ⟨t, rfl⟩ := rx
      cases e
      exact plain .none rfl ey fun k hk => by rw [hk]; cases ng <;> rfl
    | tup ds =>
      obtain ⟨a, _, ea, _⟩ := r
      have := refv ea; subst this
      cases e
      exact plain .none rfl ey fun k hk => by rw [hk]; cases ng <;> rfl
    | lst ds =>
      obtain ⟨a, _, _, ea, _⟩ := r
      have := refv ea; subst this
      cases e
      exact plain .none rfl ey fun k hk => by rw [hk]; cases ng <;> rfl
    | fz ds =>
      obtain ⟨a, _, ea, _⟩ := r
      have := refv ea; subst this
      cases e
      exact plain .none rfl ey fun k hk => by rw [hk]; cases ng <;> rfl
    | dct ks ds =>
      obtain ⟨a, _, _, ea, _⟩ := r
      have := refv ea; subst this
      cases e
      exact plain .none rfl ey fun k hk => by rw [hk]; cases ng <;> rfl
    | nd ks ds =>
      obtain ⟨a, _, _, ea, _⟩ := r
      have := refv ea; subst this
      cases e
      exact plain .none rfl ey fun k hk => by rw [hk]; cases ng <;> rfl
    | ref m =>
      obtain ⟨a, ea, _⟩ := r
      have := refv ea; subst this
      cases e
      exact plain .none rfl ey fun k hk => by rw [hk]; cases ng <;> rfl
    | exc m =>
      obtain ⟨a, ea, _⟩ := r
      have := refv ea; subst this
      cases e
      exact plain .none rfl ey fun k hk => by rw [hk]; cases ng <;> rfl
  | bl cb =>
    have ey : u = .bool cb := by
      have : y = .bl cb := sc
      subst this; exact ry
    cases d with
    | non =>
      obtain ⟨rfl, _⟩ := r
      cases (show v = Value.none from rx)
      cases e
      exact plain (.bool cb) rfl ey fun k hk => by rw [hk]; cases ng <;> rfl
    | bl b1 =>
      obtain ⟨rfl, _⟩ := r
      cases (show v = Value.bool b1 from rx)
      cases e
      exact plain (.bool cb) rfl ey fun k hk => by rw [hk]; cases ng <;> cases cb <;> cases b1 <;> rfl
    | int i =>
      obtain ⟨rfl, _⟩ := r
      obtain ⟨t, rfl⟩ := rx
      cases e
      exact plain (.bool cb) rfl ey fun k hk => by rw [hk]; cases ng <;> rfl
    | str i =>
      obtain ⟨rfl, _⟩ := r
      obtain ⟨t, rfl⟩ := rx
      cases e
      exact plain (.bool cb) rfl ey fun k hk => by rw [hk]; cases ng <;> rfl
    | tup ds =>
      obtain ⟨a, _, ea, _⟩ := r
      have := refv ea; subst this
      cases e
      exact plain (.bool cb) rfl ey fun k hk => by rw [hk]; cases ng <;> rfl
    | lst ds =>
      obtain ⟨a, _, _, ea, _⟩ := r
      have := refv ea; subst this
      cases e
      exact plain (.bool cb) rfl ey fun k hk => by rw [hk]; cases ng <;> rfl
    | fz ds =>
      obtain ⟨a, _, ea, _⟩ := r
      have := refv ea; subst this
      cases e
      exact plain (.bool cb) rfl ey fun k hk => by rw [hk]; cases ng <;> rfl
    | dct ks ds =>
      obtain ⟨a, _, _, ea, _⟩ := r
      have := refv ea; subst this
      cases e
      exact plain (.bool cb) rfl ey fun k hk => by rw [hk]; cases ng <;> rfl
    | nd ks ds =>
      obtain ⟨a, _, _, ea, _⟩ := r
      have := refv ea; subst this
      cases e
      exact plain (.bool cb) rfl ey fun k hk => by rw [hk]; cases ng <;> rfl
    | ref m =>
      obtain ⟨a, ea, _⟩ := r
      have := refv ea; subst this
      cases e
      exact plain (.bool cb) rfl ey fun k hk => by rw [hk]; cases ng <;> rfl
    | exc m =>
      obtain ⟨a, ea, _⟩ := r
      have := refv ea; subst this
      cases e
      exact plain (.bool cb) rfl ey fun k hk => by rw [hk]; cases ng <;> rfl
  | _ => cases d <;> cases e
theorem s_is {ng : Bool} {cd : D} {y : Expr} {v : V} (ha : L2.PE X x (tEv (tOf X C) W g a)) (hy : L2.PE X y (tC v)) (sc : scalV cd v) (hn : noSet y = true) : L2.PE X (.Compare x [if ng then .IsNot else .Is] [y] p) (tEv (tOf X C) W g (.is_ ng a cd)) := by
  refine PE.mono (pe_cmpR (op_isD (C := C) ng) ha hy (no_mark hn)) fun σ H Q ⟨ρ, S, μ, env, st, h⟩ => ?_
  unfold evalE at h
  refine ev1 env st h.bnd fun d S1 u H1 μ1 fp p1 k => ?_
  obtain ⟨t, e1, k1⟩ := k.map
  exact ⟨d, cd, μ1, fp, t, p1.rep, sc, e1, fin_scal p1 k1 ⟨rfl, rfl⟩⟩
theorem tst_is {ng : Bool} {cd : D} {y : Expr} {v : V} (ha : L2.PE X x (tEv (tOf X C) W g a)) (hy : L2.PE X y (tC v)) (sc : scalV cd v) (hn : noSet y = true) : PT X (.Compare x [if ng then .IsNot else .Is] [y] p) (tEvT (tOf X C) W g (.is_ ng a cd)) := by
  refine PT.mono (pt_cmpR (op_isD (C := C) ng) ha hy (no_mark hn)) fun σ H Q ⟨ρ, S, μ, env, st, h⟩ => ?_
  have h := h.test
  unfold evalE at h
  refine ev1 env st h.bnd fun d S1 u H1 μ1 fp p1 k => ?_
  obtain ⟨t, e1, b', eb, k1⟩ := k.map
  cases eb
  exact ⟨d, cd, μ1, fp, _, p1.rep, sc, e1, _, rfl, k1 H1 μ1 p1.stp p1.ok⟩
/-! ### tests -/
theorem tst_plain (ha : L2.PE X x (tEv (tOf X C) W g a)) (hx : plainTest x = true) : PT X x (tEvT (tOf X C) W g a) := by
  refine PT.mono (pt_truth ha (test_of hx)) fun σ H Q ⟨ρ, S, μ, env, st, h⟩ => ?_
  exact ev1 env st h.test fun d S1 v H1 μ1 fp p1 ⟨t, e, k⟩ => ⟨t, tru_d p1.ok p1.rep e, k H1 μ1 p1.stp p1.ok⟩
theorem tst_not (ha : PT X x (tEvT (tOf X C) W g a)) : PT X (.UnaryOp .Not x p) (tEvT (tOf X C) W g (.not a)) := by
  refine PT.mono (pt_not ha) fun σ H Q ⟨ρ, S, μ, env, st, h⟩ => ?_
  have h := h.test
  unfold evalE at h
  refine evT1 env st h.tests fun t S1 H1 μ1 s ok ⟨b', eb, k⟩ => ?_
  cases eb
  exact k H1 μ1 s ok
theorem tst_and {rest : List Expr} (ha : PT X x (tEvT (tOf X C) W g a)) (hb : PW X (.BoolOp .And (y :: rest) p) (tEvT (tOf X C) W g b)) : PW X (.BoolOp .And (x :: y :: rest) p) (tEvT (tOf X C) W g (.and a b)) := by
  refine ⟨fun whole pins s σ H Q I q => (pw_and ha hb).run whole pins s σ H Q I ?_⟩
  obtain ⟨ρ, S, μ, env, st, h⟩ := q
  have h := h.test
  unfold evalE at h
  have h2 : Ran (tOf X C) W σ H μ (testE (evalE g a ρ S)) fun t S1 => if t = true then Ran (tOf X C) W σ H μ (testE (evalE g b ρ S1)) (FinB (tOf X C) H μ Q) else FinB (tOf X C) H μ Q false S1 := by
    refine Ran.to_test (h.bnd.imp fun d S1 _ k => ?_)
    cases e : truth S1 d with
    | none => rw [e] at k; exact k.elim
    | some t =>
      rw [e] at k
      refine ⟨t, rfl, ?_⟩
      cases t with
      | true => rw [if_pos rfl]; exact Ran.to_test k
      | false =>
        rw [if_neg (by decide)]
        obtain ⟨t', e', k'⟩ := k
        rw [e] at e'; cases e'; exact k'
  refine evT1 env st h2 fun t S1 H1 μ1 s ok k => ?_
  cases t with
  | true =>
    rw [if_pos rfl] at k ⊢
    exact ⟨ρ, S1, μ1, env.keep st.kinds s, ok, (k.on s).imp fun b S2 _ k2 H2 μ2 s2 ok2 => k2 H2 μ2 (s.trans s2) ok2⟩
  | false =>
    rw [if_neg (by decide)] at k ⊢
    exact k H1 μ1 s ok
theorem tst_or {rest : List Expr} (ha : PT X x (tEvT (tOf X C) W g a)) (hb : PW X (.BoolOp .Or (y :: rest) p) (tEvT (tOf X C) W g b)) : PW X (.BoolOp .Or (x :: y :: rest) p) (tEvT (tOf X C) W g (.or a b)) := by
  refine ⟨fun whole pins s σ H Q I q => (pw_or ha hb).run whole pins s σ H Q I ?_⟩
  obtain ⟨ρ, S, μ, env, st, h⟩ := q
  have h := h.test
  unfold evalE at h
  have h2 : Ran (tOf X C) W σ H μ (testE (evalE g a ρ S)) fun t S1 => if t = true then FinB (tOf X C) H μ Q true S1 else Ran (tOf X C) W σ H μ (testE (evalE g b ρ S1)) (FinB (tOf X C) H μ Q) := by
    refine Ran.to_test (h.bnd.imp fun d S1 _ k => ?_)
    cases e : truth S1 d with
    | none => rw [e] at k; exact k.elim
    | some t =>
      rw [e] at k
      refine ⟨t, rfl, ?_⟩
      cases t with
      | false => rw [if_neg (by decide)]; exact Ran.to_test k
      | true =>
        rw [if_pos rfl]
        obtain ⟨t', e', k'⟩ := k
        rw [e] at e'; cases e'; exact k'
  refine evT1 env st h2 fun t S1 H1 μ1 s ok k => ?_
  cases t with
  | false =>
    rw [if_neg (by decide)] at k ⊢
    exact ⟨ρ, S1, μ1, env.keep st.kinds s, ok, (k.on s).imp fun b S2 _ k2 H2 μ2 s2 ok2 => k2 H2 μ2 (s.trans s2) ok2⟩
  | true =>
    rw [if_pos rfl] at k ⊢
    exact k H1 μ1 s ok
theorem s_ife {z : Expr} (hc : PT X z (tEvT (tOf X C) W g c)) (ha : L2.PE X x (tEv (tOf X C) W g a)) (hb : L2.PE X y (tEv (tOf X C) W g b)) : L2.PE X (.IfExp z x y p) (tEv (tOf X C) W g (.ife c a b)) := by
  refine PE.mono (pe_ifExp hc ha hb) fun σ H Q ⟨ρ, S, μ, env, st, h⟩ => ?_
  unfold evalE at h
  refine evT1 env st h.tests fun t S1 H1 μ1 s ok k => ?_
  cases t with
  | true =>
    rw [if_pos rfl] at k ⊢
    exact ⟨ρ, S1, μ1, env.keep st.kinds s, ok, (k.on s).imp fun d S2 _ k2 v2 H2 μ2 f2 p2 => k2 v2 H2 μ2 f2 ⟨s.trans p2.stp, p2.ok, p2.rep, p2.nd, fun a m => s.free (p2.new a m)⟩⟩
  | false =>
    rw [if_neg (by decide)] at k ⊢
    exact ⟨ρ, S1, μ1, env.keep st.kinds s, ok, (k.on s).imp fun d S2 _ k2 v2 H2 μ2 f2 p2 => k2 v2 H2 μ2 f2 ⟨s.trans p2.stp, p2.ok, p2.rep, p2.nd, fun a m => s.free (p2.new a m)⟩⟩
end
end Ev
end
section
set_option Elab.async false
set_option linter.all false
set_option maxRecDepth 100000
namespace Ev
open PySem PySem.Spec PyProof.Rows L2 PySem.SeqAt
section
variable {X : Cx} {C : Nat → Addr} {W : WX} {n : Nat} {g : G} {cc : CC} {a b c : PE} {x y z : Expr} {p : Pos}
theorem s_idx (hu : X.A.units + 200 < cLine) (ha : L2.PE X x (tEv (tOf X C) W g a)) (hb : L2.PE X y (tEv (tOf X C) W g b)) (hy : noSlice y = true) : L2.PE X (.Subscript x y p) (tEv (tOf X C) W g (.idx a b)) := by
  refine PE.mono (pe_ix (ix_d (C := C) (by omega)) ha hb (plain_ix hy)) fun σ H Q ⟨ρ, S, μ, env, st, h⟩ => ?_
  unfold evalE at h
  refine ev2 env st (h.bnd.imp fun x S1 _ k => k.bnd) fun d e S2 u v H2 μ2 f1 f2 p2 r1 r2 k => ?_
  obtain ⟨z, e1, k1⟩ := k.map
  exact ⟨d, e, S2, μ2, f1, f2, z, ⟨r1, r2, p2.ok, p2.nd⟩, e1, fin_outs p2 k1⟩
/-- a part of a slice -/
def tEvO (T : Pgm) (W : WX) (g : G) (e : PE) : TO := fun σ H Q => ∃ ρ S μ, EnvOk T H μ σ ρ ∧ StOk T H μ S ∧ Ran T W σ H μ (evalE g e ρ S) fun d S' => ∃ o, partOf d = some o ∧ ∀ H' μ', Stp H μ H' μ' → StOk T H' μ' S' → Q o H'
theorem po_no : PO X none (tEvO (tOf X C) W g (.cst .non)) := by
  refine ⟨fun pins s σ H Q I ⟨ρ, S, μ, env, st, h⟩ => po_none.run pins s σ H Q I ?_⟩
  unfold evalE at h
  obtain ⟨o, e, q⟩ := h
  cases e
  exact q H μ Stp.refl st
theorem po_so (ha : L2.PE X x (tEv (tOf X C) W g a)) : PO X (some x) (tEvO (tOf X C) W g a) := by
  refine ⟨fun pins s σ H Q I ⟨ρ, S, μ, env, st, h⟩ => ?_⟩
  rw [evalPart_some]
  have h2 : tEv (tOf X C) W g a σ H fun v H' => ∃ o, ((v = .non ∧ o = none) ∨ ∃ i, v = .int i ∧ o = some i) ∧ Q o H' := ev1 env st h fun d S1 v H1 μ1 fp p1 ⟨o, e, q⟩ => by
    cases d with
    | int i =>
      cases e
      obtain ⟨rfl, rfl⟩ := p1.rep
      exact ⟨_, .inr ⟨i, rfl, rfl⟩, q H1 μ1 p1.stp p1.ok⟩
    | non =>
      cases e
      obtain ⟨rfl, rfl⟩ := p1.rep
      exact ⟨_, .inl ⟨rfl, rfl⟩, q H1 μ1 p1.stp p1.ok⟩
    | _ => cases e
  refine thn (ha.run pins s σ H _ I h2) fun u s1 ⟨x, H1, I1, r1, o, alt, q⟩ => ?_
  rcases alt with ⟨rfl, rfl⟩ | ⟨i, rfl, rfl⟩
  · cases r1
    exact ⟨none, H1, I1, .none, q⟩
  · obtain ⟨t, rfl⟩ := r1
    exact ⟨some i, H1, I1, .int i t, q⟩
theorem s_sl {l h : Option Expr} {lo hi : PE} {p2 : Pos} (ha : L2.PE X x (tEv (tOf X C) W g a)) (hl : PO X l (tEvO (tOf X C) W g lo)) (hh : PO X h (tEvO (tOf X C) W g hi)) : L2.PE X (.Subscript x (.Slice l h none p2) p) (tEv (tOf X C) W g (.sl a lo hi)) := by
  refine PE.mono (pe_slice (sl_d (C := C)) ha hl hh) fun σ H Q ⟨ρ, S, μ, env, st, h⟩ => ?_
  unfold evalE at h
  refine ev1 env st h.bnd fun d S1 v H1 μ1 fp p1 k => ?_
  refine ⟨ρ, S1, μ1, env.keep st.kinds p1.stp, p1.ok, (k.on p1.stp).bnd.imp fun dl S2 _ k2 => ?_⟩
  by_cases hip : isPart dl = true
  case neg => rw [if_neg hip] at k2; exact k2.elim
  rw [if_pos hip] at k2
  have hpl : ∃ ol, partOf dl = some ol := by
    cases dl <;> first | exact ⟨_, rfl⟩ | cases hip
  have go : ∀ ol, partOf dl = some ol → ∀ H2 μ2, Stp H1 μ1 H2 μ2 → StOk (tOf X C) H2 μ2 S2 → tEvO (tOf X C) W g hi σ H2 fun u H3 => rSlD (tOf X C) v ol u H3 Q := fun ol eo H2 μ2 s2 ok2 => by
    refine ⟨ρ, S2, μ2, (env.keep st.kinds p1.stp).keep p1.ok.kinds s2, ok2, (k2.on s2).bnd.imp fun dh S3 _ k3 => ?_⟩
    obtain ⟨z, e1, k4⟩ := k3.map
    have hp : ∃ oh, partOf dh = some oh := by
      unfold slE at e1
      cases dh <;> first
        | exact ⟨_, rfl⟩
        | (exfalso
           split at e1
           · split at e1
             · rename_i q1 q2; cases q2
             · cases e1
           · split at e1
             · rename_i q1 q2; cases q2
             · cases e1
           · split at e1
             · split at e1
               · rename_i q1 q2; cases q2
               · cases e1
             · cases e1)
    obtain ⟨oh, eh⟩ := hp
    refine ⟨oh, eh, fun H3 μ3 s3 ok3 => ?_⟩
    have s13 := s2.trans s3
    have r3 : Rep (tOf X C) H3 μ3 d v fp := Rep.keep p1.ok.kinds s13 d v fp p1.rep (nd_out p1.nd)
    have nd3 : (μ3 ++ fp).Nodup := by
      have := nd_step (f2 := []) s13 p1.nd (by simpa using ok3.nd) (Rep.there d v fp p1.rep) (by simp)
      simpa using this
    refine ⟨d, dl, dh, S3, μ3, fp, z, r3, ok3, nd3, eo, eh, e1, fun v' H' fp' s r nd ow => ?_⟩
    exact k4 v' H' μ3 fp' ⟨(p1.stp.trans s13).trans (Same.stp s), StOk.same s ok3, r, nd, fun a m => (ow a m).elim (p1.new a) fun e => p1.stp.free (s13.free e)⟩
  obtain ⟨ol, eo⟩ := hpl
  exact ⟨ol, eo, fun H2 μ2 s2 ok2 => go ol eo H2 μ2 s2 ok2⟩
end
end Ev
end
section
set_option Elab.async false
set_option linter.all false
set_option maxRecDepth 100000
namespace Ev
open PySem PySem.Spec PyProof.Rows L2 PySem.SeqAt
section
variable {X : Cx} {C : Nat → Addr} {W : WX} {n : Nat} {g : G} {cc : CC} {a b c : PE} {x y z : Expr} {p p' : Pos} {es : List PE} {ys : List Expr}
theorem s_call {f : Nat} {nm : Str} (G : Good C W n g cc X) (hg : glob cc.sc nm = true) (hf : cc.fnames[f]? = some nm) (ha : PA X (y :: ys) (tEvs (tOf X C) W g es)) (hs : (y :: ys).all noStar = true) : L2.PE X (.Call (.Name nm p') (y :: ys) [] p) (tEv (tOf X C) W g (.call f es)) := by
  obtain ⟨addr, fd, ps, h1, h2, h3, h4⟩ := G.funs f nm hf
  obtain ⟨g1, g2, g3⟩ := G.gl hg
  rw [List.all_cons, Bool.and_eq_true] at hs
  refine PE.mono (pe_callS h4 G.room g1 h1 h2 h3 (fun σ => passAt G.tk σ) ha g2 (star_of hs.1) (stars_none hs.2)) fun σ H Q ⟨ρ, S, μ, env, st, h⟩ => ?_
  unfold evalE at h
  refine evse env st h.bnd fun ds S1 vs H1 μ1 fp e1 p1 k => ?_
  refine ⟨ds, S1, μ1, fp, p1.rep, p1.ok, p1.nd, ?_⟩
  cases hF : g.F f ds S1 with
  | none => rw [hF] at k; exact k.elim
  | some r =>
    rw [hF] at k
    cases r with
    | ok d S2 => exact fun v H' μ' fp' s ok r nd ow => k v H' μ' fp' ⟨StpO.of p1.stp p1.new (nd_out p1.nd) s, ok, r, nd, fun a m => (ow a m).elim (p1.new a) p1.stp.free⟩
    | ex cl S2 => exact fun H' μ' s ok => k H' μ' (StpO.of p1.stp p1.new (nd_out p1.nd) s) ok
theorem s_blt {bt : Blt} (G : Good C W n g cc X) (hg : glob cc.sc (bNm bt) = true) (ha : PA X (y :: ys) (tEvs (tOf X C) W g es)) (hs : (y :: ys).all noStar = true) : L2.PE X (.Call (.Name (bNm bt) p') (y :: ys) [] p) (tEv (tOf X C) W g (.blt bt es)) := by
  obtain ⟨g1, g2, g3⟩ := G.gl hg
  rw [List.all_cons, Bool.and_eq_true] at hs
  have hm := G.free _ (bNm_mem bt)
  have base : L2.PE X (.Call (.Name (bNm bt) p') (y :: ys) [] p) (tCB (rBlt (tOf X C) bt) (tEvs (tOf X C) W g es)) := by
    have hb := boot_b bt
    have hc := call_blt (C := C) G.calm bt
    cases bt <;> first
      | exact pe_callB hc g1 hm hb ha g3 g2 (star_of hs.1) (stars_none hs.2)
      | exact pe_callTy hc g1 hm hb ha g3 g2 (star_of hs.1) (stars_none hs.2)
  refine PE.mono base fun σ H Q ⟨ρ, S, μ, env, st, h⟩ => ?_
  unfold evalE at h
  refine evse env st h.bnd fun ds S1 vs H1 μ1 fp e1 p1 k => ?_
  obtain ⟨z, e2, k1⟩ := k.map
  exact ⟨ds, S1, μ1, fp, z, p1.rep, p1.ok, p1.nd, e2, fin_outs p1 k1⟩
theorem mSlot (m : Mth) : PlainAttrs (mTy m) ∧ Slot (mTy m) (mNm m) (mId m) ∧ typeOf (.builtin (mId m)) = pure (.type "method_descriptor") := by
  cases m with
  | append => exact ⟨PySem.F.plainAttrs_list, PySem.F.slot_list_append, PySem.F.type_list_append⟩
  | pop => exact ⟨PySem.F.plainAttrs_list, PySem.F.slot_list_pop, PySem.F.type_list_pop⟩
  | extend => exact ⟨PySem.F.plainAttrs_list, PySem.F.slot_list_extend, PySem.F.type_list_extend⟩
  | join => exact ⟨PySem.F.plainAttrs_str, PySem.F.slot_str_join, PySem.F.type_str_join⟩
  | upper => exact ⟨PySem.F.plainAttrs_str, PySem.F.slot_str_upper, PySem.F.type_str_upper⟩
  | get => exact ⟨PySem.F.plainAttrs_dict, PySem.F.slot_dict_get, PySem.F.type_dict_get⟩
  | split => exact ⟨PySem.F.plainAttrs_str, PySem.F.slot_str_split, PySem.F.type_str_split⟩
  | startswith => exact ⟨PySem.F.plainAttrs_str, PySem.F.slot_str_startswith, PySem.F.type_str_startswith⟩
  | partition => exact ⟨PySem.F.plainAttrs_str, PySem.F.slot_str_partition, PySem.F.type_str_partition⟩
/-- the type of what a method is called on; dicts with tuple keys too -/
def tyW (X : Cx) (T : String) (x : V) (H : Hp) : Prop := tyV X.K T x H ∨ (T = "dict" ∧ ∃ a w xs, x = .ref a ∧ H a = some (ndHO w a xs))
theorem tyW_is {pins : List (Addr × Obj)} {σ : L2.St} {H : Hp} {s : Shared} {T : String} {x : V} {v : Value} (I : Inv X pins σ H s) (r : RelV x v) (ty : tyW X T x H) :
    s.TypeIs v T ∧ ∀ a, v = .ref a → ∃ ob, s.heap.get? a = some ob ∧ ob.dict = none := by
  rcases ty with ty | ⟨rfl, a, w, xs, rfl, e⟩
  · exact tyV_is I r ty
  · cases (show v = Value.ref a from r)
    obtain ⟨⟨_, _, _, _, o, _, _, h1, h2, _⟩, _⟩ := I.hok a _ e
    refine ⟨⟨o, h1, h2.1⟩, fun b e2 => ?_⟩
    cases e2
    exact ⟨o, h1, h2.2.1⟩
theorem pe_bmW {o e : Expr} {es : List Expr} {to : TE} {t : TA} {name : Str} {apos cpos : Pos} {T id : String} {r : V → List V → Hp → VK → Prop}
    (pa : PlainAttrs T) (slot : Slot T name id) (hty : typeOf (.builtin id) = pure (.type "method_descriptor")) (hm : MtR X id r) (ho : L2.PE X o to) (ha : PA X (e :: es) t)
    (hbase : attributeBase o name X.env (eval o X.env) = eval o X.env)
    (hfew : ((backTo cpos (starEach (e :: es) X.env)).all (fun x => !x.1) && (backToKw cpos (keywordEach [] X.env)).all (fun x => x.1.isSome)
      && decide ((e :: es).length + ([] : List Keyword).length + (if ([] : List Keyword).isEmpty then 0 else 1) < 30)) = true)
    (hline : (apos.endLine == cpos.line) = true) (hs : starEach (e :: es) X.env = (false, eval e X.env) :: starEach es X.env) (hplain : (backTo cpos (starEach es X.env)).any (·.1) = false) :
    L2.PE X (.Call (.Attribute o name apos) (e :: es) [] cpos) (fun σ H Q => to σ H fun x H1 => tyW X T x H1 ∧ t σ H1 fun xs H2 => r x xs H2 Q) := by
  refine ⟨fun pins s σ H Q I h => ?_⟩
  refine wpAny_Call_method_late hbase hfew hline rfl (thn (ho.run pins s σ H _ I h) fun v s1 ⟨x, H1, I1, r1, ty, q1⟩ => ?_)
  obtain ⟨h1, h2⟩ := tyW_is I1 r1 ty
  refine ⟨T, id, pa, slot, hty, h1, h2, ?_⟩
  have hA := ha.run cpos pins s1 σ H1 _ I1 q1
  rw [hs] at hA ⊢
  refine Calls.callWith_builtin (by show (false || (backTo cpos (starEach es X.env)).any (·.1)) = false; rw [hplain] <;> rfl) (Calls.evalArgs_plain ?_)
  exact thn hA fun us s2 ⟨vs, H2, I2, r2, q2⟩ => hm pins s2 σ H2 x vs v us Q I2 r1 r2 q2
theorem pe_bm0W {o : Expr} {to : TE} {name : Str} {apos cpos : Pos} {T id : String} {r : V → List V → Hp → VK → Prop} (pa : PlainAttrs T) (slot : Slot T name id) (hty : typeOf (.builtin id) = pure (.type "method_descriptor")) (hm : MtR X id r) (ho : L2.PE X o to)
    (hbase : attributeBase o name X.env (eval o X.env) = eval o X.env) (hline : (apos.endLine == cpos.line) = true) : L2.PE X (.Call (.Attribute o name apos) [] [] cpos) (fun σ H Q => to σ H fun x H1 => tyW X T x H1 ∧ r x [] H1 Q) := by
  refine ⟨fun pins s σ H Q I h => ?_⟩
  refine wpAny_Call_method0_late hbase hline (thn (ho.run pins s σ H _ I h) fun v s1 ⟨x, H1, I1, r1, ty, q1⟩ => ?_)
  obtain ⟨h1, h2⟩ := tyW_is I1 r1 ty
  exact ⟨T, id, pa, slot, hty, h1, h2, Calls.callWith_builtin rfl (PySem.evalArgs_none (hm pins s1 σ H1 x [] v [] Q I1 r1 .nil q1))⟩
theorem recv_ty {m : Mth} {d : D} {v : V} {fp : List Addr} {H : Hp} {μ : List Addr} {S : Sto} (ok : StOk (tOf X C) H μ S) (r : Rep (tOf X C) H μ d v fp) (h : recvOk m d S = true) : tyW X (mTy m) v H := by
  have ls : (listOf S d).isSome = true → tyW X "list" v H := fun h => by
    obtain ⟨ds, e⟩ := Option.isSome_iff_exists.mp h
    obtain ⟨a, vs, f1, rfl, sq, _⟩ := list_at ok r e
    exact .inl (.inl ⟨rfl, vs, sq⟩)
  cases m with
  | append => exact ls h
  | pop => exact ls h
  | extend => exact ls h
  | join =>
    cases d with
    | str z => obtain ⟨rfl, _⟩ := r; exact .inl rfl
    | _ => cases h
  | upper =>
    cases d with
    | str z => obtain ⟨rfl, _⟩ := r; exact .inl rfl
    | _ => cases h
  | get =>
    have dcase : ∀ {ks vs}, dictOf S d = some (ks, vs) → tyW X "dict" v H := fun e => by
      obtain ⟨a, us, f1, rfl, ⟨kvs, q, _⟩, _⟩ := dict_at ok r e
      exact .inl (.inr (.inr (.inl ⟨rfl, .inl ⟨kvs, q⟩⟩)))
    rcases Bool.or_eq_true_iff.mp (show ((dictOf S d).isSome || (ndOf S d).isSome) = true from h) with h | h
    · obtain ⟨⟨ks, vs⟩, e⟩ := Option.isSome_iff_exists.mp h
      exact dcase e
    · obtain ⟨⟨ks, vs⟩, e⟩ := Option.isSome_iff_exists.mp h
      unfold ndOf at e
      split at e
      · obtain ⟨a, xs, f1, rfl, ⟨q, _⟩, _⟩ := r
        exact .inr ⟨rfl, a, _, _, rfl, q⟩
      · exact dcase rfl
      · rename_i n
        split at e
        · rename_i hS
          obtain ⟨a, rfl, hm, rfl⟩ := r
          obtain ⟨xs, ⟨q, _⟩, _⟩ := ok.at_ _ _ a hS hm
          exact .inr ⟨rfl, a, _, _, rfl, q⟩
        · rename_i hS
          exact dcase (ks := []) (vs := []) (by unfold dictOf; simp only [hS])
        · cases e
      · cases e
  | split =>
    cases d with
    | str z => obtain ⟨rfl, _⟩ := r; exact .inl rfl
    | _ => cases h
  | startswith =>
    cases d with
    | str z => obtain ⟨rfl, _⟩ := r; exact .inl rfl
    | _ => cases h
  | partition =>
    cases d with
    | str z => obtain ⟨rfl, _⟩ := r; exact .inl rfl
    | _ => cases h
theorem mth_fin {m : Mth} {d : D} {v : V} {f1 : List Addr} {S1 : Sto} {H H1 : Hp} {μ μ1 : List Addr} {σ : Slots} {Q : VK} (p1 : Pst (tOf X C) H μ d S1 v H1 μ1 f1) {ds : List D} {S2 : Sto} {vs : List V} {H2 : Hp} {μ2 f2 : List Addr} (p2 : Psts (tOf X C) H1 μ1 ds S2 vs H2 μ2 f2)
    (k : Ran (tOf X C) W σ H μ ((mthE m d ds S2).map fun r => R.ok r.1 r.2) (Fin1 (tOf X C) H μ Q)) : rMth (tOf X C) m v vs H2 Q := by
  obtain ⟨⟨z, S'⟩, e, k1⟩ := k.map
  have r1 : Rep (tOf X C) H2 μ2 d v f1 := Rep.keep p1.ok.kinds p2.stp d v f1 p1.rep (nd_out p1.nd)
  have nd := nd_step p2.stp p1.nd p2.nd (Rep.there d v f1 p1.rep) p2.new
  have s12 := p1.stp.trans p2.stp
  have nw : ∀ a ∈ f1 ++ f2, H a = none := fun a m => (List.mem_append.mp m).elim (p1.new a) fun m => p1.stp.free (p2.new a m)
  exact ⟨d, ds, S2, μ2, f1, f2, z, S', r1, p2.rep, p2.ok, nd, e, fun v' H' μ' fp' s ok r nd' ow => k1 v' H' μ' fp' ⟨StpO.of s12 nw (nd_out nd) s, ok, r, nd', fun a m => (ow a m).elim (nw a) s12.free⟩⟩
theorem s_mth {m : Mth} {apos : Pos} (G : Good C W n g cc X) (ho : L2.PE X x (tEv (tOf X C) W g a)) (ha : PA X ys (tEvs (tOf X C) W g es)) (hs : ys.all noStar = true) (hes : es.length = ys.length) (hx : noCall0 x = true) (hl : ys.length < 20) (hln : (apos.endLine == p.line) = true) :
    L2.PE X (.Call (.Attribute x (mNm m) apos) ys [] p) (tEv (tOf X C) W g (.mth m a es)) := by
  obtain ⟨m1, m2, m3⟩ := mSlot m
  have hu : X.A.units + 20 < cLine := by have := G.units; omega
  cases ys with
  | nil =>
    refine PE.mono (pe_bm0W m1 m2 m3 (mt_d (C := C) hu m) ho (attr_base hx) hln) fun σ H Q ⟨ρ, S, μ, env, st, h⟩ => ?_
    unfold evalE at h
    refine ev1 env st h.bnd fun d S1 v H1 μ1 f1 p1 k => ?_
    by_cases hr : recvOk m d S1 = true
    case neg => rw [if_neg hr] at k; exact k.elim
    rw [if_pos hr] at k
    refine ⟨recv_ty p1.ok p1.rep hr, ?_⟩
    have hes' : es = [] := List.eq_nil_of_length_eq_zero hes
    subst hes'
    unfold evalEs at k
    have p2 : Psts (tOf X C) H1 μ1 [] S1 [] H1 μ1 [] := ⟨Stp.refl, p1.ok, ⟨rfl, rfl⟩, by simpa using p1.ok.nd, by simp⟩
    exact mth_fin p1 p2 k
  | cons y ys =>
    rw [List.all_cons, Bool.and_eq_true] at hs
    have hfew : ((backTo p (starEach (y :: ys) X.env)).all (fun x => !x.1) && (backToKw p (keywordEach [] X.env)).all (fun x => x.1.isSome) && decide ((y :: ys).length + ([] : List Keyword).length + (if ([] : List Keyword).isEmpty then 0 else 1) < 30)) = true := by
      rw [stars_all (by rw [List.all_cons, hs.1, hs.2]; rfl)]
      simp only [Bool.true_and, Bool.and_eq_true, decide_eq_true_eq]
      refine ⟨rfl, ?_⟩
      show (y :: ys).length + 0 + 0 < 30
      omega
    refine PE.mono (pe_bmW m1 m2 m3 (mt_d (C := C) hu m) ho ha (attr_base hx) hfew hln (star_of hs.1) (stars_none hs.2)) fun σ H Q ⟨ρ, S, μ, env, st, h⟩ => ?_
    unfold evalE at h
    refine ev1 env st h.bnd fun d S1 v H1 μ1 f1 p1 k => ?_
    by_cases hr : recvOk m d S1 = true
    case neg => rw [if_neg hr] at k; exact k.elim
    rw [if_pos hr] at k
    refine ⟨recv_ty p1.ok p1.rep hr, ?_⟩
    exact ⟨ρ, S1, μ1, env.keep st.kinds p1.stp, p1.ok, (k.bnd.on p1.stp).imp fun ds S2 _ k2 vs H2 μ2 f2 p2 => mth_fin p1 p2 k2⟩
/-! ### isinstance -/
theorem s_cls (G : Good C W n g cc X) {t : Ty} {x : Expr} (h : chkTy cc t x = true) : L2.PE X x (tC (clsV C t)) ∧ noStar x = true := by
  cases x with
  | Name nm q =>
    unfold chkTy at h
    obtain ⟨h1, h2⟩ := Bool.and_eq_true_iff.mp h
    obtain ⟨g1, g2, g3⟩ := G.gl h1
    refine ⟨?_, rfl⟩
    cases t with
    | cls c => exact pe_glob g1 (G.cls c nm (of_decide_eq_true h2)).1 rfl g2
    | int => obtain ⟨b1, b2, b3, b4, b5⟩ := boot_ty C .int (fun c h => nomatch h); have e := of_decide_eq_true h2; subst e; exact pe_bltn g1 (G.free _ b3) b1 b2 b4 b5
    | str => obtain ⟨b1, b2, b3, b4, b5⟩ := boot_ty C .str (fun c h => nomatch h); have e := of_decide_eq_true h2; subst e; exact pe_bltn g1 (G.free _ b3) b1 b2 b4 b5
    | tuple => obtain ⟨b1, b2, b3, b4, b5⟩ := boot_ty C .tuple (fun c h => nomatch h); have e := of_decide_eq_true h2; subst e; exact pe_bltn g1 (G.free _ b3) b1 b2 b4 b5
    | list => obtain ⟨b1, b2, b3, b4, b5⟩ := boot_ty C .list (fun c h => nomatch h); have e := of_decide_eq_true h2; subst e; exact pe_bltn g1 (G.free _ b3) b1 b2 b4 b5
    | dict => obtain ⟨b1, b2, b3, b4, b5⟩ := boot_ty C .dict (fun c h => nomatch h); have e := of_decide_eq_true h2; subst e; exact pe_bltn g1 (G.free _ b3) b1 b2 b4 b5
    | bool => obtain ⟨b1, b2, b3, b4, b5⟩ := boot_ty C .bool (fun c h => nomatch h); have e := of_decide_eq_true h2; subst e; exact pe_bltn g1 (G.free _ b3) b1 b2 b4 b5
    | valueError => obtain ⟨b1, b2, b3, b4, b5⟩ := boot_ty C .valueError (fun c h => nomatch h); have e := of_decide_eq_true h2; subst e; exact pe_bltn g1 (G.free _ b3) b1 b2 b4 b5
  | _ => cases h
theorem pa_cls (G : Good C W n g cc X) : ∀ (ts : List Ty) (xs : List Expr), all2 (chkTy cc) ts xs = true → PA X xs (fun σ H Q => Q (ts.map (clsV C)) H)
  | [], [], _ => pa_nil
  | [], _ :: _, h => by cases h
  | _ :: _, [], h => by cases h
  | t :: ts, x :: xs, h => by
    obtain ⟨h1, h2⟩ := Bool.and_eq_true_iff.mp (show (chkTy cc t x && all2 (chkTy cc) ts xs) = true from h)
    obtain ⟨c1, c2⟩ := s_cls G h1
    exact pa_cons c1 (pa_cls G ts xs h2) (star_of c2)
theorem s_isi {ts : List Ty} {t : Expr} (G : Good C W n g cc X) (hg : glob cc.sc "isinstance" = true) (hne : ts ≠ []) (ha : L2.PE X y (tEv (tOf X C) W g a)) (hy : noStar y = true) (ht : noStar t = true)
    (hts : (∃ t0, ts = [t0] ∧ chkTy cc t0 t = true) ∨ ∃ xs k q, t = .Tuple xs k q ∧ all2 (chkTy cc) ts xs = true ∧ xs.length ≤ 1000) : L2.PE X (.Call (.Name "isinstance" p') [y, t] [] p) (tEv (tOf X C) W g (.isi a ts)) := by
  obtain ⟨g1, g2, g3⟩ := G.gl hg
  have hm := G.free "isinstance" (by decide +kernel)
  have hst : [y, t].all noStar = true := by simp [hy, ht]
  have base : ∀ {tt : TE}, L2.PE X t tt → L2.PE X (.Call (.Name "isinstance" p') [y, t] [] p) (tCB (rIsD (tOf X C) g.isa ts) (tCons (tEv (tOf X C) W g a) (tCons tt tNil))) := fun {tt} h =>
    pe_callB (call_isD G.ec ts hne) g1 hm PyProof.Rows.boot_isinstance (pa_cons ha (pa_cons h pa_nil (star_of ht)) (star_of hy)) g3 g2 (star_of hy) (stars_none (es := [t]) (by simpa using ht))
  rcases hts with ⟨t0, rfl, h0⟩ | ⟨xs, k, q, rfl, h0, hl⟩
  · refine PE.mono (base (s_cls G h0).1) fun σ H Q ⟨ρ, S, μ, env, st, h⟩ => ?_
    unfold evalE at h
    refine ev1 env st h.bnd fun d S1 v H1 μ1 f1 p1 k => ?_
    obtain ⟨bb, e1, k1⟩ := k.map
    exact ⟨d, S1, μ1, f1, v, bb, p1.rep, p1.ok, e1, fin_scal p1 k1 ⟨rfl, rfl⟩, .inl ⟨t0, rfl, rfl⟩⟩
  · refine PE.mono (base (pe_tup (pa_cls G ts xs h0))) fun σ H Q ⟨ρ, S, μ, env, st, h⟩ => ?_
    unfold evalE at h
    refine ev1 env st h.bnd fun d S1 v H1 μ1 f1 p1 k => ?_
    obtain ⟨bb, e1, k1⟩ := k.map
    have hlen : (ts.map (clsV C)).length ≤ sizeLine := by
      have : ∀ (ts : List Ty) (xs : List Expr), all2 (chkTy cc) ts xs = true → ts.length = xs.length := fun ts => by
        induction ts with
        | nil => intro xs h; cases xs with | nil => rfl | cons _ _ => cases h
        | cons t ts ih => intro xs h; cases xs with | nil => cases h | cons x xs => rw [List.length_cons, List.length_cons, ih xs (Bool.and_eq_true_iff.mp h).2]
      rw [List.length_map, this ts xs h0]
      exact Nat.le_trans hl (by decide)
    refine ⟨hlen, fun q nq => ?_⟩
    have sm : Same H1 (upd H1 q (.tup (ts.map (clsV C)))) := Same.upd nq
    refine ⟨d, S1, μ1, f1, v, bb, Rep.same sm _ _ _ p1.rep, StOk.same sm p1.ok, e1, ?_, .inr ⟨q, rfl, upd_same⟩⟩
    exact k1 _ _ μ1 [] (Pst.flat (p1.stp.trans (Same.stp sm)) (StOk.same sm p1.ok) ⟨rfl, rfl⟩)
end
end Ev
end
section
set_option Elab.async false
set_option linter.all false
set_option maxRecDepth 100000
namespace Ev
open PySem PySem.Spec PyProof.Rows L2 PySem.SeqAt
def W0 : WX := fun _ _ _ _ => False
/-! ### the tests of a comprehension -/
def tEvI (T : Pgm) (W : WX) (g : G) (es : List PE) : TT := fun σ H Q => ∃ ρ S μ, EnvOk T H μ σ ρ ∧ StOk T H μ S ∧ Ran T W σ H μ (evalIfs g es ρ S) (FinB T H μ Q)
section
variable {X : Cx} {C : Nat → Addr} {W : WX} {n : Nat} {g : G} {cc : CC} {a b c : PE} {x y z : Expr} {p p' : Pos} {es : List PE} {ys : List Expr}
theorem PTs.mono {ifs : List Expr} {t t' : TT} (h : PTs X ifs t) (m : ∀ σ H Q, t' σ H Q → t σ H Q) : PTs X ifs t' := ⟨fun pins s σ H Q I q => h.run pins s σ H Q I (m σ H Q q)⟩
theorem ifs_nil : PTs X [] (tEvI (tOf X C) W g []) := by
  refine PTs.mono pts_nil fun σ H Q ⟨ρ, S, μ, env, st, h⟩ => ?_
  unfold evalIfs at h
  exact h H μ Stp.refl st
theorem ifs_one (h : PT X x (tEvT (tOf X C) W g a)) : PTs X [x] (tEvI (tOf X C) W g [a]) := by
  refine PTs.mono (pts_one h) fun σ H Q ⟨ρ, S, μ, env, st, h⟩ => ?_
  unfold evalIfs at h
  refine evT1 env st h.tests fun t S1 H1 μ1 s ok k => ?_
  cases t with
  | true =>
    rw [if_pos rfl] at k
    unfold evalIfs at k
    exact k H1 μ1 s ok
  | false =>
    rw [if_neg (by decide)] at k
    exact k H1 μ1 s ok
end
/-! ### the slots of its own -/
def wipeE (ρ : Env) : List Nat → Env
  | [] => ρ
  | v :: vs => (wipeE ρ vs).set v none
theorem EnvOk.wipe {T : Pgm} {H : Hp} {μ : List Addr} {σ : Slots} {ρ : Env} (h : EnvOk T H μ σ ρ) : ∀ vs : List Nat, EnvOk T H μ (L2.wipe σ vs) (wipeE ρ vs)
  | [] => h
  | v :: vs => EnvOk.drop (EnvOk.wipe h vs)
theorem wipe_set {σ : L2.St} {i : Nat} {x : Option V} {vs : List Nat} : i ∈ vs → wipe (σ.set i x) vs = wipe σ vs := by
  induction vs with
  | nil => intro h; cases h
  | cons j vs ih =>
    intro h
    unfold wipe
    by_cases hj : i ∈ vs
    · rw [ih hj]
    · have hij : i = j := (List.mem_cons.mp h).resolve_right hj
      subst hij
      have comm : ∀ (vs : List Nat) (σ : L2.St), i ∉ vs → wipe (σ.set i x) vs = (wipe σ vs).set i x := fun vs => by
        induction vs with
        | nil => intro σ _; rfl
        | cons k vs ihv =>
          intro σ hk
          unfold wipe
          have h1 : i ≠ k := fun e => hk (by rw [e]; exact List.mem_cons_self)
          rw [ihv σ fun m => hk (List.mem_cons_of_mem _ m), List.set_comm _ _ h1]
      rw [comm vs σ hj, List.set_set]
theorem setNames_set : ∀ (is : List Nat) (ds : List D) (ρ : Env) (j : Nat) (x : Option D), j ∈ is → setNames is ds (ρ.set j x) = setNames is ds ρ
  | [], _, _, _, _, m => by cases m
  | i :: is, [], _, _, _, _ => rfl
  | i :: is, d :: ds, ρ, j, x, m => by
    show setNames is ds ((ρ.set j x).set i (some d)) = setNames is ds (ρ.set i (some d))
    by_cases e : j = i
    · subst e; rw [List.set_set]
    · rw [List.set_comm _ _ e]
      exact setNames_set is ds _ j x ((List.mem_cons.mp m).resolve_left e)
theorem setNames_wipe (is : List Nat) (ds : List D) (ρ : Env) : ∀ vs : List Nat, (∀ v ∈ vs, v ∈ is) → setNames is ds (wipeE ρ vs) = setNames is ds ρ
  | [], _ => rfl
  | v :: vs, h => by
    unfold wipeE
    rw [setNames_set is ds _ v none (h v List.mem_cons_self)]
    exact setNames_wipe is ds ρ vs fun u m => h u (List.mem_cons_of_mem _ m)
theorem setTg_wipe (tg : Tg) (d : D) (ρ : Env) (S : Sto) : setTg tg d (wipeE ρ (tgIs tg)) S = setTg tg d ρ S := by
  cases tg with
  | nm i =>
    show some (((ρ.set i none).set i _), _) = some (ρ.set i _, _)
    rw [List.set_set]
  | tp is =>
    cases d with
    | tup ds =>
      show (setNames is (settles ds S).1 (wipeE ρ is)).map _ = (setNames is (settles ds S).1 ρ).map _
      rw [setNames_wipe is _ ρ is fun v m => m]
    | _ => rfl
section
variable {T : Pgm} {H : Hp} {μ : List Addr} {S : Sto}
theorem StOk.upd1 {N : Addr} {xs ys : List V} (h : StOk T H μ S) (hN : H N = some (.lst xs)) (n : N ∉ μ) : StOk T (L2.upd H N (.lst ys)) μ S := ⟨h.len, h.nd, fun i d a h1 h2 => by
  have q := h.at_ i d a h1 h2
  have hne : a ≠ N := fun e => n (by rw [← e]; exact List.mem_iff_getElem?.mpr ⟨i, h2⟩)
  cases d with
  | lst ds => obtain ⟨vs, e, r⟩ := q; exact ⟨vs, by rw [upd_ne hne]; exact e, Reps.upd1 hN r (by simp)⟩
  | dct ks ds => obtain ⟨us, e, r⟩ := q; exact ⟨us, DictAt.keep (upd_ne hne) e, Reps.upd1 hN r (by simp)⟩
  | nd ks ds => obtain ⟨xs, e, rk, r⟩ := q; exact ⟨xs, ⟨by rw [upd_ne hne]; exact e.1, e.2⟩, Reps.upd1 hN rk (by simp), Reps.upd1 hN r (by simp)⟩
  | _ => exact q.elim⟩
theorem guardS_some {α : Type} {lk : Option (Nat × List D)} {x : Option α} {y : α} (h : guardS lk S x = some y) : stays lk S ∧ x = some y := by
  unfold guardS at h
  split at h
  · exact ⟨by assumption, h⟩
  · cases h
end
section
variable {X : Cx} {C : Nat → Addr} {W : WX} {n : Nat} {g : G} {cc : CC}
/-- how things lie ahead of turn i -/
def LcI (T : Pgm) (Gw : Nat → Hp → List Addr → Prop) (H : Hp) (μ : List Addr) (H1 : Hp) (N : Addr) (lk : Option (Nat × List D)) (f : D → Sto → Option (R (Option D))) (its out : List D) (Sf : Sto) (i m : Nat) (Hc : Hp) : Prop :=
  i + m = its.length ∧ ∃ S' μ' acc vs fp rest, StOk T Hc μ' S' ∧ Stp H μ Hc μ' ∧ Gw i Hc μ' ∧ Hc N = some (.lst vs) ∧ Reps T Hc μ' acc vs fp ∧ (μ' ++ (fp ++ [N])).Nodup ∧ (∀ a ∈ fp, H a = none ∧ H1 a = none) ∧
    (∀ b o, H1 b = some o → ∃ o', Hc b = some o') ∧ acc.length ≤ i ∧ compL lk f (its.drop i) S' = some (rest, Sf) ∧ out = acc ++ rest
theorem lc_blk {scope : Scope} {own : List (Str × Nat)} (G : Good C W n g cc X) (hb : blkC cc.N cc.sc scope own = true) : BlkOk X.N X.env.scope scope own := by
  have b := blkOk_by hb
  rw [G.hN]
  refine ⟨b.kind, b.uniq, b.ix, fun y hy e => ?_, b.own⟩
  rcases b.free y hy e with h | h <;> obtain ⟨k', h1, h2⟩ := G.sc.look _ _ h
  · rcases h2 with rfl | ⟨z, _⟩
    · exact .inl h1
    · cases z
  · rcases h2 with rfl | ⟨_, rfl⟩
    · exact .inr h1
    · exact .inl h1
theorem lc_read {tg : Tg} {k : ItK} {es ifs : List PE} {elt : PE} {vs : List Nat} (ho : vs = tgIs tg) {σ : L2.St} {H : Hp} {Q : VK} (hx : tEv (tOf X C) W g (.comp tg k es ifs elt) σ H Q) :
    tLc (tIt (tOf X C) W g k es) (gTg (tOf X C) tg) (tEvI (tOf X C) W0 g ifs) (tEv (tOf X C) W0 g elt) vs σ H Q := by
  obtain ⟨ρ, S, μ, env, st, h⟩ := hx
  rw [ho]
  unfold evalE at h
  refine ⟨ρ, S, μ, env, st, h.bnd.imp fun ds S1 _ k1 => ?_⟩
  cases hit : itemsOf S1 k ds with
  | none => rw [hit] at k1; exact k1.elim
  | some q0 =>
    obtain ⟨its, lk⟩ := q0
    rw [hit] at k1
    obtain ⟨⟨out, Sf⟩, e1, k2⟩ := k1.map
    refine ⟨its, lk, rfl, fun J H1 μ1 s1 ok1 bg N nN => ?_⟩
    obtain ⟨Gw, wk, g0, gup⟩ := bg.new N nN
    have hHN : H N = none := s1.free nN
    have nm1 : N ∉ μ1 := fun m => by rcases ok1.kinds N m with ⟨_, z⟩ | ⟨_, z⟩ | ⟨_, z⟩ <;> (rw [nN] at z; cases z)
    generalize hf : (fun d S => match setTg tg d ρ S with
        | some (ρ', S) => bnd (evalIfs g ifs ρ' S) fun b S => if b = true then bnd (evalE g elt ρ' S) fun x S => some (R.ok (some x) S) else some (R.ok none S)
        | none => none) = f at e1
    refine ⟨LcI (tOf X C) Gw H μ H1 N lk f its out Sf, ⟨its.length, by simp, S1, μ1, [], [], [], out, StOk.same (Same.upd nN) ok1, s1.trans (Stp.upd nN), g0, upd_same, ⟨rfl, rfl⟩, ?_, by simp, fun b o e => ⟨o, Same.upd nN b o e⟩, Nat.zero_le _, e1, rfl⟩, fun i m Hc ⟨him, S', μ', acc, vs, fp, rest, okc, sc, gc, hN, rs, nd, nw, dm, hac, hcl, hout⟩ => ?_⟩
    · refine List.nodup_append.mpr ⟨ok1.nd, by simp, fun a ha b hb e => ?_⟩
      have : b = N := by simpa using hb
      subst this; subst e; exact nm1 ha
    by_cases hil : its.length ≤ i
    · left
      rw [List.drop_eq_nil_of_le hil] at hcl
      obtain ⟨h1, h2⟩ := guardS_some (show guardS lk S' (some ([], S')) = some (rest, Sf) from hcl)
      cases h2
      refine ⟨wk.stop i Hc μ' _ hil gc okc h1, ?_⟩
      rw [List.append_nil] at hout
      subst hout
      refine k2 _ Hc μ' (fp ++ [N]) ⟨sc, okc, ⟨N, vs, fp, rfl, hN, rs, rfl⟩, nd, fun a m => ?_⟩
      rcases List.mem_append.mp m with m | m
      · exact (nw a m).1
      · have : a = N := by simpa using m
        subst this; exact hHN
    · right
      have hil' : i < its.length := by omega
      rw [List.drop_eq_getElem_cons hil'] at hcl
      obtain ⟨hst, hcl2⟩ := guardS_some (show guardS lk S' (bndN (f its[i] S') fun x S => (compL lk f (its.drop (i + 1)) S).map fun r => (match x with | some y => y :: r.1 | none => r.1, r.2)) = some (rest, Sf) from hcl)
      obtain ⟨jgo, jit⟩ := wk.item i its[i] Hc μ' S' (List.getElem?_eq_getElem hil') gc okc hst
      refine ⟨jgo, fun H' => LcI (tOf X C) Gw H μ H1 N lk f its out Sf (i + 1) (m - 1) H', fun H' h => ⟨m - 1, by omega, h⟩, fun v H' yl => ?_⟩
      obtain ⟨sm, f1, r1, nd1, nw1, g1⟩ := jit v H' yl
      rw [← hf] at hcl2
      cases est : setTg tg its[i] ρ S' with
      | none => simp only [est, bndN_none] at hcl2; cases hcl2
      | some q =>
        obtain ⟨ρ2, S2⟩ := q
        simp only [est] at hcl2
        rw [hf] at hcl2
        have hN' : H' N = some (.lst vs) := sm N _ hN
        have nf1 : ∀ a ∈ f1, a ∉ fp ++ [N] := fun a m m2 => by
          obtain ⟨_, o, ho⟩ := nw1 a m
          rcases List.mem_append.mp m2 with m2 | m2
          · rw [(nw a m2).2] at ho; cases ho
          · have : a = N := by simpa using m2
            subst this; rw [nN] at ho; cases ho
        have nda : ((μ' ++ f1) ++ (fp ++ [N])).Nodup := by
          obtain ⟨n1, n2, n3⟩ := List.nodup_append.mp nd
          refine List.nodup_append.mpr ⟨nd1, n2, fun a ha b hb e => ?_⟩
          subst e
          rcases List.mem_append.mp ha with ha | ha
          · exact n3 a ha a hb rfl
          · exact nf1 a ha hb
        have kf1 : Kinds H' f1 := Rep.kinds _ _ _ r1
        have sca : Stp H μ H' (μ' ++ f1) := Stp.own (own := []) (sc.trans (Same.stp sm)) fun a m => (nw1 a m).1
        have rsa : Reps (tOf X C) H' (μ' ++ f1) acc vs fp := Reps.widen kf1 _ _ _ (Reps.same sm _ _ _ rs)
        have nNa : N ∉ μ' ++ f1 := fun m => nd_out nda N (by simp) m
        have env' : EnvOk (tOf X C) H' μ' (L2.wipe σ (tgIs tg)) (wipeE ρ (tgIs tg)) := (env.keep st.kinds (sc.trans (Same.stp sm))).wipe _
        refine setTg_ok env' (StOk.same sm okc) r1 nd1 (by rw [setTg_wipe]; exact est) fun σ2 env2 ok2 hw => ⟨?_, ?_⟩
        · rw [hw (tgIs tg) fun _ m => m]
          have wipe_idem : ∀ vs : List Nat, ∀ ws : List Nat, (∀ v ∈ ws, v ∈ vs) → L2.wipe (L2.wipe σ ws) vs = L2.wipe σ vs := fun vs ws => by
            induction ws with
            | nil => intro _; rfl
            | cons w ws ih =>
              intro h
              rw [← ih fun v m => h v (List.mem_cons_of_mem _ m)]
              exact wipe_set (h w List.mem_cons_self)
          exact wipe_idem _ _ fun _ m => m
        cases eif : evalIfs g ifs ρ2 S2 with
        | none => rw [eif] at hcl2; simp only [bnd_none, bndN_none] at hcl2; cases hcl2
        | some rb =>
          cases rb with
          | ex c3 S3 => rw [eif] at hcl2; simp only [bnd_ex, bndN_ex] at hcl2; cases hcl2
          | ok b S3 =>
            rw [eif] at hcl2
            simp only [bnd_ok] at hcl2
            refine ⟨ρ2, S2, μ' ++ f1, env2, ok2, ?_⟩
            rw [eif]
            intro H3 μ3 s3 ok3
            have hN3 : H3 N = some (.lst vs) := s3.fr _ _ hN' nNa
            have nN3 : N ∉ μ3 := (s3.out N _ hN' nNa).1
            have g3 : Gw (i + 1) H3 μ3 := wk.keep _ _ _ _ _ g1 ok2.kinds s3 ok3.nd
            cases b with
            | false =>
              rw [if_neg (by decide)]
              simp only [Bool.false_eq_true, if_false, bndN_ok] at hcl2
              obtain ⟨⟨rest', Sf'⟩, ec, er⟩ := Option.map_eq_some_iff.mp hcl2
              cases er
              refine ⟨by omega, S3, μ3, acc, vs, fp, rest', ok3, sca.trans s3, g3, hN3, Reps.keep ok2.kinds s3 _ _ _ rsa fun a m => nd_out nda a (List.mem_append_left _ m), ?_, nw, fun b o e => ?_, by omega, ec, hout⟩
              · have := nd_step (f2 := []) s3 nda (by simpa using ok3.nd) (fun a m => (List.mem_append.mp m).elim (Reps.there _ _ _ rsa a) fun m => by
                  have : a = N := by simpa using m
                  subst this; exact ⟨_, hN'⟩) (by simp)
                simpa using this
              · obtain ⟨o1, e1⟩ := dm b o e
                exact s3.dom b o1 (sm _ _ e1)
            | true =>
              rw [if_pos rfl]
              simp only [if_true] at hcl2
              cases eel : evalE g elt ρ2 S3 with
              | none => rw [eel] at hcl2; simp only [bnd_none, bndN_none] at hcl2; cases hcl2
              | some rx =>
                cases rx with
                | ex c4 S4 => rw [eel] at hcl2; simp only [bnd_ex, bndN_ex] at hcl2; cases hcl2
                | ok x S4 =>
                  rw [eel] at hcl2
                  simp only [bnd_ok, bndN_ok] at hcl2
                  obtain ⟨⟨rest', Sf'⟩, ec, er⟩ := Option.map_eq_some_iff.mp hcl2
                  cases er
                  refine ⟨ρ2, S3, μ3, env2.keep ok2.kinds s3, ok3, ?_⟩
                  rw [eel]
                  intro w H4 μ4 f4 p4
                  have s34 := s3.trans p4.stp
                  have hN4 : H4 N = some (.lst vs) := p4.stp.fr _ _ hN3 nN3
                  have nN4 : N ∉ μ4 := (p4.stp.out N _ hN3 nN3).1
                  have there : ∀ a ∈ fp ++ [N], ∃ o, H' a = some o := fun a m => (List.mem_append.mp m).elim (Reps.there _ _ _ rsa a) fun m => by
                    have : a = N := by simpa using m
                    subst this; exact ⟨_, hN'⟩
                  have nd4 : (μ4 ++ ((fp ++ [N]) ++ f4)).Nodup := nd_step s34 nda p4.nd there fun a m => s3.free (p4.new a m)
                  have nd5 : (μ4 ++ ((fp ++ f4) ++ [N])).Nodup := by
                    refine (List.Perm.nodup_iff (List.Perm.append_left μ4 ?_)).mp nd4
                    rw [List.append_assoc, List.append_assoc]
                    exact List.Perm.append_left fp List.perm_append_comm
                  have nNf : N ∉ fp ++ f4 := fun m => by
                    obtain ⟨_, n2, _⟩ := List.nodup_append.mp nd5
                    exact (List.nodup_append.mp n2).2.2 N m N (by simp) rfl
                  have rs4 : Reps (tOf X C) H4 μ4 acc vs fp := Reps.keep ok2.kinds s34 _ _ _ rsa fun a m => nd_out nda a (List.mem_append_left _ m)
                  have hsz : vs.length < sizeLine := by
                    have := Reps.len _ _ _ rs4
                    have := bg.len
                    omega
                  refine ⟨vs, hN4, hsz, by omega, S4, μ4, acc ++ [x], vs ++ [w], fp ++ f4, rest', StOk.upd1 p4.ok hN4 nN4, ?_, ?_, upd_same, ?_, nd5, fun a m => ?_, fun b o e => ?_, ?_, ec, by rw [hout]; simp⟩
                  · have s0 := sca.trans s34
                    refine ⟨s0.ext, fun b o e nb => ?_, fun b o e => ?_⟩
                    · rw [upd_ne (ne_of_none e hHN)]; exact s0.fr b o e nb
                    · rw [upd_ne (ne_of_none e hHN)]; exact s0.dom b o e
                  · exact gup _ _ _ _ _ (wk.keep _ _ _ _ _ g3 ok3.kinds p4.stp p4.ok.nd) nN4 hN4
                  · refine Reps.upd1 hN4 (Reps.append _ _ _ _ _ _ rs4 ⟨w, [], f4, [], rfl, p4.rep, ⟨rfl, rfl⟩, by simp⟩) nNf
                  · rcases List.mem_append.mp m with m | m
                    · exact nw a m
                    · have n4 : H' a = none := s3.free (p4.new a m)
                      refine ⟨sca.free n4, ?_⟩
                      cases e : H1 a with
                      | none => rfl
                      | some o =>
                        obtain ⟨o1, e1⟩ := dm a o e
                        rw [sm _ _ e1] at n4; cases n4
                  · by_cases hb : b = N
                    · subst hb; exact ⟨_, upd_same⟩
                    · rw [upd_ne hb]
                      obtain ⟨o1, e1⟩ := dm b o e
                      exact s34.dom b o1 (sm _ _ e1)
                  · rw [List.length_append]; show acc.length + 1 ≤ i + 1; omega
theorem s_comp {tg : Tg} {k : ItK} {es ifs : List PE} {elt : PE} {y tgx iter : Expr} {ifsx : List Expr} {scope : Scope} {p : Pos} (G : Good C W n g cc X)
    (hi : PI X tgx iter (tIt (tOf X C) W g k es)) (hs : noSet iter = true) (ht : chkTg { cc with sc := scope } tg tgx = true) (ho : (ownOf tg tgx).map (·.2) = tgIs tg) (hb : blkC cc.N cc.sc scope (ownOf tg tgx) = true)
    (hif : ∀ (s : Shared) (H : Hp) (A : Addr) (cl : List (Str × Addr)) (fp : List Addr), PTs (X.blk s H scope (compEnvC scope cl A X.env) fp) ifsx (tEvI (tOf X C) W0 g ifs))
    (he : ∀ (s : Shared) (H : Hp) (A : Addr) (cl : List (Str × Addr)) (fp : List Addr), L2.PE (X.blk s H scope (compEnvC scope cl A X.env) fp) y (tEv (tOf X C) W0 g elt)) :
    L2.PE X (.ListComp y [⟨tgx, iter, ifsx, 0⟩] scope p) (tEv (tOf X C) W g (.comp tg k es ifs elt)) := by
  have hg : ∀ (s : Shared) (H : Hp) (A : Addr) (cl : List (Str × Addr)) (fp : List Addr), PG (X.blk s H scope (compEnvC scope cl A X.env) fp) tgx (gTg (tOf X C) tg) := fun s H A cl fp => pg_tg (G.blk scope s H A cl fp) ht
  exact PE.mono (pe_lc G.calm (by rw [G.hN]; exact G.nd) hi (lc_blk G hb) hg hif he (folded hs)) fun σ H Q h => lc_read ho h
/-- name = [..] -/
theorem s_setC {i : Nat} {nm : Str} {py spos : Pos} {tg : Tg} {k : ItK} {es ifs : List PE} {elt : PE} {y tgx iter : Expr} {ifsx : List Expr} {scope : Scope} {p : Pos} (G : Good C W n g cc X) (hn : chkNm cc i (.Name nm py) = true)
    (hi : PI X tgx iter (tIt (tOf X C) W g k es)) (hs : noSet iter = true) (ht : chkTg { cc with sc := scope } tg tgx = true) (ho : (ownOf tg tgx).map (·.2) = tgIs tg) (hb : blkC cc.N cc.sc scope (ownOf tg tgx) = true)
    (hif : ∀ (s : Shared) (H : Hp) (A : Addr) (cl : List (Str × Addr)) (fp : List Addr), PTs (X.blk s H scope (compEnvC scope cl A X.env) fp) ifsx (tEvI (tOf X C) W0 g ifs))
    (he : ∀ (s : Shared) (H : Hp) (A : Addr) (cl : List (Str × Addr)) (fp : List Addr), L2.PE (X.blk s H scope (compEnvC scope cl A X.env) fp) y (tEv (tOf X C) W0 g elt)) :
    L2.PS X (.Assign [.Name nm py] (.ListComp y [⟨tgx, iter, ifsx, 0⟩] scope p) spos) (tAsg (tEv (tOf X C) W g (.comp tg k es ifs elt)) (gName i)) := by
  have hg : ∀ (s : Shared) (H : Hp) (A : Addr) (cl : List (Str × Addr)) (fp : List Addr), PG (X.blk s H scope (compEnvC scope cl A X.env) fp) tgx (gTg (tOf X C) tg) := fun s H A cl fp => pg_tg (G.blk scope s H A cl fp) ht
  obtain ⟨h1, h2⟩ := Bool.and_eq_true_iff.mp (show (decide (cc.N[i]? = some nm) && loc cc.sc nm) = true from hn)
  have h1' : X.N[i]? = some nm := by rw [G.hN]; exact of_decide_eq_true h1
  have hN : X.N.Nodup := by rw [G.hN]; exact G.nd
  cases hsw : (X.env.blockKind == .function && X.env.kindOf nm == some .local && py.line == p.line && !(scope.names.any fun (n, k) => n == nm && (k == .local || k == .cell))) with
  | true =>
    have hl : X.env.scope.names.lookup nm = some .local := by
      simp only [Bool.and_eq_true] at hsw
      exact eq_of_beq hsw.1.1.2
    have sw : swapsWith (.ListComp y [⟨tgx, iter, ifsx, 0⟩] scope p) (some (.Name nm py)) spos.line X.env = pure true := by
      show (pure (X.env.blockKind == .function && X.env.kindOf nm == some .local && py.line == p.line && !(scope.names.any fun (n, k) => n == nm && (k == .local || k == .cell))) : Sem Bool) = pure true
      rw [hsw]
    have base := ps_setLc (py := py) (spos := spos) (pos := p) G.calm hN h1' hl sw hi (lc_blk G hb) hg hif he (folded hs)
    exact ⟨fun pins s σ H D I h => base.run pins s σ H D I (lc_read ho h)⟩
  | false =>
    have sw : swapsWith (.ListComp y [⟨tgx, iter, ifsx, 0⟩] scope p) (some (.Name nm py)) spos.line X.env = pure false := by
      show (pure (X.env.blockKind == .function && X.env.kindOf nm == some .local && py.line == p.line && !(scope.names.any fun (n, k) => n == nm && (k == .local || k == .cell))) : Sem Bool) = pure false
      rw [hsw]
    exact ps_set hN h1' (G.sc.loc h2) (s_comp G hi hs ht ho hb hif he) sw (G.fn nm h2)
end
end Ev
end
section
set_option Elab.async false
set_option linter.all false
set_option maxRecDepth 100000
namespace Ev
open PySem PySem.Spec PyProof.Rows L2 PySem.SeqAt
theorem all2_get {α β : Type} {f : α → β → Bool} : ∀ (as : List α) (bs : List β), all2 f as bs = true → ∀ (i : Nat) a b, as[i]? = some a → bs[i]? = some b → f a b = true
  | [], [], _, i, a, b, h, _ => by simp at h
  | [], _ :: _, h, _, _, _, _, _ => by cases h
  | _ :: _, [], h, _, _, _, _, _ => by cases h
  | x :: as, y :: bs, h, i, a, b, h1, h2 => by
    obtain ⟨q1, q2⟩ := Bool.and_eq_true_iff.mp (show (f x y && all2 f as bs) = true from h)
    cases i with
    | zero => simp at h1 h2; subst h1; subst h2; exact q1
    | succ j => exact all2_get as bs q2 j a b (by simpa using h1) (by simpa using h2)
theorem all2_true {α β : Type} {f : α → β → Bool} : ∀ (as : List α) (bs : List β), all2 f as bs = true → all2 (fun _ _ => decide True) as bs = true
  | [], [], _ => rfl
  | [], _ :: _, h => by cases h
  | _ :: _, [], h => by cases h
  | x :: as, y :: bs, h => by
    obtain ⟨q1, q2⟩ := Bool.and_eq_true_iff.mp (show (f x y && all2 f as bs) = true from h)
    show (decide True && all2 _ as bs) = true
    rw [all2_true as bs q2]; rfl
theorem all2_len {α β : Type} {f : α → β → Bool} : ∀ (as : List α) (bs : List β), all2 f as bs = true → as.length = bs.length
  | [], [], _ => rfl
  | [], _ :: _, h => by cases h
  | _ :: _, [], h => by cases h
  | x :: as, y :: bs, h => by
    obtain ⟨q1, q2⟩ := Bool.and_eq_true_iff.mp (show (f x y && all2 f as bs) = true from h)
    rw [List.length_cons, List.length_cons, all2_len as bs q2]
structure EOk (C : Nat → Addr) (W : WX) (g : G) (X : Cx) (e : PE) (x : Expr) : Prop where
  pe : L2.PE X x (tEv (tOf X C) W g e)
  pt : PT X x (tEvT (tOf X C) W g e)
  pw : ∀ o xs q, x = .BoolOp o xs q → PW X x (tEvT (tOf X C) W g e)
section
variable {X : Cx} {C : Nat → Addr} {W : WX} {n m : Nat} {g : G} {cc : CC} {a b c e : PE} {x y z : Expr} {p : Pos} {es : List PE} {xs : List Expr}
theorem EOk.of (h : L2.PE X x (tEv (tOf X C) W g e)) (hp : plainTest x = true) : EOk C W g X e x := ⟨h, tst_plain h hp, fun o xs q e => by subst e; cases hp⟩
theorem EOk.cmp {ops ys} (h : L2.PE X (.Compare x ops ys p) (tEv (tOf X C) W g e)) (ht : PT X (.Compare x ops ys p) (tEvT (tOf X C) W g e)) : EOk C W g X e (.Compare x ops ys p) := ⟨h, ht, fun o xs q e => nomatch e⟩
theorem tst_ife (hc : PT X z (tEvT (tOf X C) W g c)) (ha : PT X x (tEvT (tOf X C) W g a)) (hb : PT X y (tEvT (tOf X C) W g b)) : PT X (.IfExp z x y p) (tEvT (tOf X C) W g (.ife c a b)) := by
  refine ⟨fun pins s σ H Q I ⟨ρ, S, μ, env, st, h⟩ => ?_⟩
  have e1 : isTrue (.IfExp z x y p) X.env (eval (.IfExp z x y p) X.env) = (do if ← isTrue z X.env (eval z X.env) then isTrue x X.env (eval x X.env) else isTrue y X.env (eval y X.env)) := by
    simp only [PySem.isTrue]
  rw [e1]
  have h := h.test
  unfold evalE at h
  have h2 : Ran (tOf X C) W σ H μ (testE (evalE g c ρ S)) fun t S1 => Ran (tOf X C) W σ H μ (testE (evalE g (if t = true then a else b) ρ S1)) (FinB (tOf X C) H μ Q) := by
    refine h.tests.imp fun t S1 _ k => ?_
    cases t with
    | true => rw [if_pos rfl] at k ⊢; exact Ran.to_test k
    | false => rw [if_neg (by decide)] at k ⊢; exact Ran.to_test k
  have h3 : tEvT (tOf X C) W g c σ H fun t H1 => tEvT (tOf X C) W g (if t = true then a else b) σ H1 Q := evT1 env st h2 fun t S1 H1 μ1 s ok k => ⟨ρ, S1, μ1, env.keep st.kinds s, ok, (k.on s).imp fun b S2 _ k2 H2 μ2 s2 ok2 => k2 H2 μ2 (s.trans s2) ok2⟩
  refine wpAny_bind (thn (hc.run pins s σ H _ I h3) fun t s1 ⟨H1, I1, q1⟩ => ?_)
  cases t with
  | true => exact ha.run pins s1 σ H1 Q I1 q1
  | false => exact hb.run pins s1 σ H1 Q I1 q1
theorem s_const {d : D} {k : Const} {j : Nat} (h : cstOk d k = true) : ∃ v, L2.PE X (.Constant k j p) (tC v) ∧ scalV d v := by
  cases d <;> cases k <;> first
    | exact ⟨_, pe_non, rfl⟩
    | (cases h; done)
    | (have h' := eq_of_beq h; subst h'; exact ⟨_, pe_bl, rfl⟩)
    | (have h' := of_decide_eq_true h; subst h'; exact ⟨_, pe_int, rfl⟩)
    | (have h' := of_decide_eq_true h; subst h'; exact ⟨_, pe_str, rfl⟩)
end
def Ih (C : Nat → Addr) (g : G) (m n : Nat) : Prop := ∀ (W : WX) (cc : CC) (X : Cx), Good C W n g cc X → ∀ (e : PE) (x : Expr), chkE m cc e x = true → EOk C W g X e x
section
variable {X : Cx} {C : Nat → Addr} {W : WX} {n m : Nat} {g : G} {cc : CC} {a b c e : PE} {x y z : Expr} {p : Pos} {es : List PE} {xs : List Expr}
theorem Ih.pas (ih : Ih C g m n) (G : Good C W n g cc X) (h : all2 (chkE m cc) es xs = true) (hs : xs.all noStar = true) : PA X xs (tEvs (tOf X C) W g es) :=
  Ev.pas es xs (all2_true es xs h) (fun i e x h1 h2 => (ih _ _ _ G e x (all2_get es xs h i e x h1 h2)).pe) hs
theorem Ih.pi (ih : Ih C g m n) (G : Good C W n g cc X) {k : ItK} {tgx iter : Expr} (h : chkI m cc k es tgx iter = true) : PI X tgx iter (tIt (tOf X C) W g k es) := by
  unfold chkI at h
  split at h
  · exact pi_val (ih _ _ _ G _ _ h).pe
  · simp only [Bool.and_eq_true, decide_eq_true_eq] at h
    obtain ⟨⟨⟨rfl, h2⟩, h3⟩, h4⟩ := h
    obtain ⟨g1, g2, g3⟩ := G.gl h2
    exact pi_rng1 g1 (G.free _ (by decide +kernel)) h4 (ih.pas G (by simp [all2, h3]) (by simp [h4]))
  · simp only [Bool.and_eq_true, decide_eq_true_eq] at h
    obtain ⟨⟨⟨⟨⟨rfl, h2⟩, h3⟩, h4⟩, h5⟩, h6⟩ := h
    obtain ⟨g1, g2, g3⟩ := G.gl h2
    exact pi_rng2 g1 (G.free _ (by decide +kernel)) h4 h6 (ih.pas G (by simp [all2, h3, h5]) (by simp [h4, h6]))
  · simp only [Bool.and_eq_true, decide_eq_true_eq] at h
    obtain ⟨⟨⟨⟨⟨⟨rfl, h2⟩, h3⟩, h4⟩, h5⟩, h6⟩, h7⟩ := h
    obtain ⟨g1, g2, g3⟩ := G.gl h2
    cases tgx with
    | Tuple elts kk tpos => exact pi_zipD g1 (G.free _ (by decide +kernel)) h4 h6 (ih.pas G (by simp [all2, h3, h5]) (by simp [h4, h6]))
    | _ => cases h7
  · cases h
theorem main_e (C : Nat → Addr) (g : G) (n : Nat) : ∀ m, Ih C g m n
  | 0 => fun _ _ _ _ _ _ h => by cases h
  | m + 1 => fun W cc X G e x h => by
    have ih : Ih C g m n := main_e C g n m
    unfold chkE at h
    split at h
    all_goals try (have q := Nat.succ.inj ‹m + 1 = _ + 1›; subst q)
    · cases h
    · -- var
      simp only [Bool.and_eq_true, decide_eq_true_eq] at h
      obtain ⟨⟨⟨h1, h2⟩, h3⟩, h4⟩ := h
      exact .of (s_var (by rw [G.hN]; exact h1) (G.sc.vis h2) (beq_eq_false_iff_ne.mpr h3) (beq_eq_false_iff_ne.mpr h4)) rfl
    · obtain ⟨v, h1, h2⟩ := s_const (X := X) h
      exact .of (s_val h1 h2) rfl
    · simp only [Bool.and_eq_true] at h
      obtain ⟨h1, h2⟩ := h
      obtain ⟨g1, g2, g3⟩ := G.gl h1
      split at h2
      · rename_i d' hd
        have := scEq_ok h2
        subst this
        obtain ⟨u, v, e1, e2, e3⟩ := G.con _ _ hd
        exact .of (s_val (pe_glob g1 e1 e2 g2) e3) rfl
      · cases h2
    · simp only [Bool.and_eq_true, decide_eq_true_eq] at h
      obtain ⟨⟨h1, h2⟩, h3⟩ := h
      exact .of (s_tup (ih.pas G h1 h2) h3 (all2_len _ _ h1).symm) rfl
    · simp only [Bool.and_eq_true, decide_eq_true_eq] at h
      obtain ⟨⟨h1, h2⟩, h3⟩ := h
      exact .of (s_lst (ih.pas G h1 h2) h3 (all2_len _ _ h1).symm) rfl
    · exact .of s_dct0 rfl
    · simp only [Bool.and_eq_true, decide_eq_true_eq] at h
      obtain ⟨⟨rfl, h1⟩, h2⟩ := h
      exact .of (s_bin (ih _ _ _ G _ _ h1).pe (ih _ _ _ G _ _ h2).pe) rfl
    · exact .of (s_neg (ih _ _ _ G _ _ h).pe) rfl
    · exact ⟨s_not (ih _ _ _ G _ _ h).pe, tst_not (ih _ _ _ G _ _ h).pt, fun _ _ _ e => nomatch e⟩
    · -- and
      simp only [Bool.and_eq_true] at h
      obtain ⟨h1, h2⟩ := h
      have hx := ih _ _ _ G _ _ h1
      split at h2
      · have hy := ih _ _ _ G _ _ h2
        have w := tst_and (p := ‹Pos›) hx.pt (pw_and1 hy.pt)
        exact ⟨s_and hx.pe (pe_one hy.pe), w.pt, fun _ _ _ _ => w⟩
      · have hy := ih _ _ _ G _ _ h2
        have w := tst_and hx.pt (hy.pw _ _ _ rfl)
        exact ⟨s_and hx.pe hy.pe, w.pt, fun _ _ _ _ => w⟩
    · simp only [Bool.and_eq_true] at h
      obtain ⟨h1, h2⟩ := h
      have hx := ih _ _ _ G _ _ h1
      split at h2
      · have hy := ih _ _ _ G _ _ h2
        have w := tst_or (p := ‹Pos›) hx.pt (pw_or1 hy.pt)
        exact ⟨s_or hx.pe (pe_one hy.pe), w.pt, fun _ _ _ _ => w⟩
      · have hy := ih _ _ _ G _ _ h2
        have w := tst_or hx.pt (hy.pw _ _ _ rfl)
        exact ⟨s_or hx.pe hy.pe, w.pt, fun _ _ _ _ => w⟩
    · simp only [Bool.and_eq_true, decide_eq_true_eq] at h
      obtain ⟨⟨⟨rfl, h1⟩, h2⟩, h3⟩ := h
      exact .cmp (s_cmp G.units (ih _ _ _ G _ _ h1).pe (ih _ _ _ G _ _ h2).pe h3) (tst_cmp G.units (ih _ _ _ G _ _ h1).pe (ih _ _ _ G _ _ h2).pe h3)
    · simp only [Bool.and_eq_true, decide_eq_true_eq] at h
      obtain ⟨⟨⟨⟨⟨rfl, rfl⟩, h1⟩, h2⟩, h3⟩, h4⟩ := h
      exact .cmp (s_cmp2 G.units (ih _ _ _ G _ _ h1).pe (ih _ _ _ G _ _ h2).pe (ih _ _ _ G _ _ h3).pe h4) (tst_cmp2 G.units (ih _ _ _ G _ _ h1).pe (ih _ _ _ G _ _ h2).pe (ih _ _ _ G _ _ h3).pe h4)
    · simp only [Bool.and_eq_true, decide_eq_true_eq] at h
      obtain ⟨⟨rfl, h1⟩, h2⟩ := h
      obtain ⟨v, c1, c2⟩ := s_const (X := X) h2
      exact .cmp (s_is (ih _ _ _ G _ _ h1).pe c1 c2 rfl) (tst_is (ih _ _ _ G _ _ h1).pe c1 c2 rfl)
    · simp only [Bool.and_eq_true] at h
      obtain ⟨⟨h1, h2⟩, h3⟩ := h
      exact ⟨s_ife (ih _ _ _ G _ _ h1).pt (ih _ _ _ G _ _ h2).pe (ih _ _ _ G _ _ h3).pe, tst_ife (ih _ _ _ G _ _ h1).pt (ih _ _ _ G _ _ h2).pt (ih _ _ _ G _ _ h3).pt, fun _ _ _ e => nomatch e⟩
    · simp only [Bool.and_eq_true] at h
      obtain ⟨⟨h1, h2⟩, h3⟩ := h
      exact .of (s_idx G.units (ih _ _ _ G _ _ h1).pe (ih _ _ _ G _ _ h2).pe h3) rfl
    · -- slice
      simp only [Bool.and_eq_true] at h
      obtain ⟨⟨h1, h2⟩, h3⟩ := h
      refine .of (s_sl (ih _ _ _ G _ _ h1).pe ?_ ?_) rfl
      · split at h2
        · exact po_so (ih _ _ _ G _ _ h2).pe
        · split at h2
          · exact po_no
          · cases h2
      · split at h3
        · exact po_so (ih _ _ _ G _ _ h3).pe
        · split at h3
          · exact po_no
          · cases h3
    · simp only [Bool.and_eq_true, decide_eq_true_eq] at h
      obtain ⟨⟨⟨h1, h2⟩, h3⟩, h4⟩ := h
      exact .of (s_call G h1 h2 (ih.pas G h3 h4) h4) rfl
    · simp only [Bool.and_eq_true, decide_eq_true_eq] at h
      obtain ⟨⟨⟨h1, rfl⟩, h3⟩, h4⟩ := h
      exact .of (s_blt G h1 (ih.pas G h3 h4) h4) rfl
    · simp only [Bool.and_eq_true, decide_eq_true_eq] at h
      obtain ⟨⟨⟨⟨⟨⟨rfl, h1⟩, h2⟩, h3⟩, h4⟩, h5⟩, h6⟩ := h
      exact .of (s_mth G (ih _ _ _ G _ _ h1).pe (ih.pas G h2 h3) h3 (all2_len _ _ h2) h4 h5 h6) rfl
    · -- isinstance
      simp only [Bool.and_eq_true, decide_eq_true_eq] at h
      obtain ⟨⟨⟨⟨⟨h1, rfl⟩, h2⟩, h3⟩, h4⟩, h5⟩ := h
      unfold chkTs at h5
      split at h5
      · simp only [Bool.and_eq_true, decide_eq_true_eq] at h5
        obtain ⟨⟨k1, k2⟩, k3⟩ := h5
        exact .of (s_isi G h1 (by intro e; subst e; cases k1) (ih _ _ _ G _ _ h2).pe h3 h4 (.inr ⟨_, _, _, rfl, k2, k3⟩)) rfl
      · exact .of (s_isi G h1 (by simp) (ih _ _ _ G _ _ h2).pe h3 h4 (.inl ⟨_, rfl, h5⟩)) rfl
      · cases h5
    · -- comprehension
      simp only [Bool.and_eq_true, decide_eq_true_eq] at h
      obtain ⟨⟨⟨⟨⟨⟨h1, h2⟩, h3⟩, h4⟩, h5⟩, h6⟩, h7⟩ := h
      refine .of (s_comp G (ih.pi G (by unfold chkI; exact h1)) h2 h3 h4 h5 (fun s H A cl fp => ?_) fun s H A cl fp => (ih _ _ _ (G.blk _ s H A cl fp) _ _ h7).pe) rfl
      split at h6
      · exact ifs_nil
      · exact ifs_one (ih _ _ _ (G.blk _ s H A cl fp) _ _ h6).pt
      · cases h6
    · cases h
end
end Ev
end
section
set_option Elab.async false
set_option linter.all false
set_option maxRecDepth 100000
namespace Ev
open PySem PySem.Spec PyProof.Rows L2 PySem.SeqAt
section
variable {T : Pgm} {H : Hp} {μ : List Addr} {S : Sto}
theorem Reps.set : ∀ (ds : List D) (vs : List V) (k : Nat) (d : D) (v : V), Reps T H μ ds vs [] → Rep T H μ d v [] → Reps T H μ (ds.set k d) (vs.set k v) []
  | [], _, _, _, _, h, _ => by obtain ⟨rfl, _⟩ := h; exact ⟨rfl, rfl⟩
  | x :: ds, _, k, d, v, h, r => by
    obtain ⟨w, us, f1, f2, rfl, h1, h2, e⟩ := h
    obtain ⟨rfl, rfl⟩ := List.append_eq_nil_iff.mp e.symm
    cases k with
    | zero => exact ⟨v, us, [], [], rfl, r, h2, rfl⟩
    | succ k => exact ⟨w, us.set k v, [], [], rfl, h1, Reps.set ds us k d v h2 r, rfl⟩
theorem map_put {k : Key} {y : V} : ∀ (kvs : List (Key × V)), (kvs.map (·.1)).Nodup → ∀ j, (kvs.findIdx? fun p => decide (p.1 = k)) = some j →
    (kvs.map fun kv => if kv.1 = k then (kv.1, y) else kv).map (·.2) = (kvs.map (·.2)).set j y ∧ (kvs.map fun kv => if kv.1 = k then (kv.1, y) else kv).map (·.1) = kvs.map (·.1)
  | [], _, j, h => by simp at h
  | p :: r, nd, j, h => by
    rw [List.map_cons, List.nodup_cons] at nd
    rw [List.findIdx?_cons] at h
    by_cases e : p.1 = k
    · simp only [e, decide_true, if_true] at h
      cases h
      have id : (r.map fun kv => if kv.1 = k then (kv.1, y) else kv) = r := by
        conv => rhs; rw [← List.map_id r]
        refine List.map_congr_left fun kv m => ?_
        rw [if_neg fun q => nd.1 (by rw [e, ← q]; exact List.mem_map_of_mem m)]; rfl
      rw [List.map_cons, if_pos e, id]
      exact ⟨by simp, by simp⟩
    · have h' : (r.findIdx? fun p => decide (p.1 = k)).map (· + 1) = some j := by simpa [e] using h
      obtain ⟨j', h1, rfl⟩ := Option.map_eq_some_iff.mp h'
      obtain ⟨a, b⟩ := map_put r nd.2 j' h1
      rw [List.map_cons, if_neg e]
      exact ⟨by rw [List.map_cons, a]; rfl, by rw [List.map_cons, b]; rfl⟩
theorem put_key {a : Addr} {ks vs : List D} {kvs : List (Key × V)} {k : Key} {z : D} {y : V} (nd : (kvs.map (·.1)).Nodup) (ek : ks = kvs.map fun p => keyD p.1) (r : Reps T H μ vs (kvs.map (·.2)) []) (rz : Rep T H μ z y []) :
    (putK ks vs (keyD k) z).1 = (L2.putK kvs k y).map (fun p => keyD p.1) ∧ Reps T H μ (putK ks vs (keyD k) z).2 ((L2.putK kvs k y).map (·.2)) [] ∧ ((L2.putK kvs k y).map (·.1)).Nodup := by
  subst ek
  unfold putK
  rw [find_key]
  cases hf : kvs.findIdx? fun p => decide (p.1 = k) with
  | none =>
    have hv : valV kvs k = none := by
      have := findIdx_val k kvs
      rw [hf] at this
      cases h : valV kvs k with
      | none => rfl
      | some _ => rw [h] at this; cases this
    rw [putK_new y hv]
    have nk : k ∉ kvs.map (·.1) := fun m => by
      obtain ⟨p, pm, pe⟩ := List.mem_map.mp m
      have := List.findIdx?_eq_none_iff.mp hf p pm
      simp [pe] at this
    refine ⟨by simp, ?_, ?_⟩
    · rw [List.map_append]
      have := Reps.append _ _ _ _ _ _ r (show Reps T H μ [z] [y] [] from ⟨y, [], [], [], rfl, rz, ⟨rfl, rfl⟩, rfl⟩)
      simpa using this
    · rw [List.map_append]
      refine List.nodup_append.mpr ⟨nd, by simp, fun a ha b hb e => ?_⟩
      have : b = k := by simpa using hb
      subst this; subst e; exact nk ha
  | some j =>
    obtain ⟨m1, m2⟩ := map_put (y := y) kvs nd j hf
    have ha : (kvs.any fun kv => decide (kv.1 = k)) = true := by
      rw [valV_any, ← findIdx_val, hf]; rfl
    have e : L2.putK kvs k y = kvs.map fun kv => if kv.1 = k then (kv.1, y) else kv := by
      unfold L2.putK
      rw [if_pos ha]
    rw [e]
    refine ⟨?_, ?_, ?_⟩
    · show kvs.map (fun p => keyD p.1) = _
      have : ∀ l : List (Key × V), l.map (fun p => keyD p.1) = (l.map (·.1)).map keyD := fun l => by rw [List.map_map]; rfl
      rw [this, this, m2]
    · rw [m1]; exact Reps.set _ _ _ _ _ r rz
    · rw [m2]; exact nd
end
def rSetE (T : Pgm) : TSet := fun o i v H Q => ∃ dv d di S μ f1 f2 f3 S', Rep T H μ dv v f1 ∧ Rep T H μ d o f2 ∧ Rep T H μ di i f3 ∧ StOk T H μ S ∧ (μ ++ f1).Nodup ∧ setItE d di dv S = some S' ∧ ∀ H' μ', StpO f1 H μ H' μ' → StOk T H' μ' S' → Q H'
theorem fin_nd {X : Cx} {C : Nat → Addr} {H : Hp} {μ f1 : List Addr} {S2 : Sto} {n : Nat} {a : Addr} {ks vs : List D} {xs : List XP} {Q : Hp → Prop} (g2 : StOk (tOf X C) H (μ ++ f1) S2) (hm' : (μ ++ f1)[n]? = some a) (ma : a ∈ μ)
    (q : ∀ H' μ', StpO f1 H μ H' μ' → StOk (tOf X C) H' μ' (S2.set n (.nd ks vs)) → Q H')
    (p : xs.map (·.1) = ks.map D.nk ∧ (∀ k ∈ ks, tkeyOk k = true) ∧ Reps (tOf X C) H (μ ++ f1) ks (xs.map fun x => .ref x.2.1) [] ∧ Reps (tOf X C) H (μ ++ f1) vs (xs.map (·.2.2)) []) : Q (upd H a (ndHO X.w a xs)) := by
  have st : Stp H (μ ++ f1) (upd H a (ndHO X.w a xs)) (μ ++ f1) := Stp.put (List.mem_append_left _ ma)
  refine q _ _ (StpO.put ma fun b hb => hb) (g2.put hm' st (fun b hb => ?_) ⟨xs, ⟨upd_same, p.1, p.2.1⟩, Reps.keep g2.kinds st _ _ _ p.2.2.1 (by simp), Reps.keep g2.kinds st _ _ _ p.2.2.2 (by simp)⟩)
  have : b = a := by simpa using hb
  subst this; exact .inr (.inr ⟨(_, _), upd_same⟩)
theorem set_d {X : Cx} {C : Nat → Addr} (hu : X.A.units + 20 < cLine) : PSet X (rSetE (tOf X C)) := by
  intro pins s σ H o i v ov iv u Q I ro ri rv ⟨dv, d, di, S, μ, f1, f2, f3, S', r1, r2, r3, ok, nd, e, q⟩
  unfold setItE at e
  split at e
  · rename_i n
    obtain ⟨a, rfl, hm, rfl⟩ := r2
    have ma : a ∈ μ := List.mem_of_getElem? hm
    obtain ⟨g1, g2⟩ := settle_ok dv v f1 μ S r1 ok nd
    have kf := Rep.kinds dv v f1 r1
    have hm' : (μ ++ f1)[n]? = some a := widen_g n a hm
    split at e
    · rename_i ds hS
      obtain ⟨vs, ha, rs⟩ := ok.at_ n _ a hS hm
      split at e
      · rename_i k
        obtain ⟨rfl, rfl⟩ := r3
        by_cases hk : 0 ≤ k ∧ k < ds.length
        case neg => simp only [if_neg hk] at e; cases e
        simp only [if_pos hk] at e
        cases e
        have hix : ixN vs.length k = some k.toNat := by
          unfold ixN
          rw [Reps.len _ _ _ rs, if_pos hk.1, if_pos hk.2]
        refine set_list pins s σ H _ _ v ov iv u Q I ro ri rv ⟨a, vs, k, k.toNat, rfl, rfl, ha, hix, ?_⟩
        exact q _ _ (StpO.put ma fun b hb => hb) (put_list g2 hm' (Reps.set _ _ _ _ _ (Reps.widen kf _ _ _ rs) g1))
      · cases e
    · rename_i ks vs hS
      obtain ⟨us, ⟨kvs, ha, ek, eu, ndk⟩, rs⟩ := ok.at_ n _ a hS hm
      split at e
      · rename_i hk
        obtain ⟨hk1, hk2⟩ := Bool.and_eq_true_iff.mp hk
        obtain ⟨key, rfl, rfl⟩ := keyV r3 hk1
        cases e
        have hlen : kvs.length < sizeLine := by
          have : ks.length < 16777216 := of_decide_eq_true hk2
          rw [ek, List.length_map] at this
          exact this
        refine set_dict (by omega) pins s σ H _ _ v ov iv u Q I ro ri rv ⟨a, _, rfl, DPut.k ha hlen, ?_⟩
        subst eu
        obtain ⟨p1, p2, p3⟩ := put_key (k := key) (a := a) ndk ek (Reps.widen kf _ _ _ rs) g1
        have st : Stp H (μ ++ f1) (upd H a (.dK (L2.putK kvs key v))) (μ ++ f1) := Stp.put (List.mem_append_left _ ma)
        refine q _ _ (StpO.put ma fun b hb => hb) (g2.put hm' st (fun b hb => ?_) ⟨_, ⟨_, upd_same, p1, rfl, p3⟩, Reps.keep g2.kinds st _ _ _ p2 (by simp)⟩)
        have : b = a := by simpa using hb
        subst this; exact .inr (.inl ⟨_, upd_same⟩)
      · split at e
        · rename_i hk
          obtain ⟨hk0, hvs⟩ := Bool.and_eq_true_iff.mp hk
          obtain ⟨hk1, hks⟩ := Bool.and_eq_true_iff.mp hk0
          clear hk hk0
          obtain rfl : ks = [] := by simpa using hks
          obtain rfl : vs = [] := by simpa using hvs
          cases e
          obtain rfl : kvs = [] := by simpa using ek.symm
          obtain ⟨b, rfl, rfl, rfl, kb⟩ := tkey_at I r3 ri hk1
          cases (show ov = Value.ref a from ro)
          have n0 := (d0_in I (a := a) (us := []) ⟨[], ha, rfl, rfl, by simp⟩).1
          refine nd_set hu I n0 (by simp) (by rw [ha]; exact True.intro) hk1 kb rv fun ndx s' I' => ⟨_, I', ?_⟩
          have w0 : Reps (tOf X C) H (μ ++ f1) [] (([] : List XP).map fun x => V.ref x.2.1) [] := ⟨rfl, rfl⟩
          have w1 : Reps (tOf X C) H (μ ++ f1) [] (([] : List XP).map (·.2.2)) [] := ⟨rfl, rfl⟩
          exact fin_nd g2 hm' ma q (put_nd (ks := []) (vs := []) (xs := []) hk1 rfl (by simp) ndx w0 w1 (Rep.widen kf _ _ _ r3) g1)
        · cases e
    · rename_i ks vs hS
      obtain ⟨xs, hn, rk, rs⟩ := ok.at_ n _ a hS hm
      split at e
      · rename_i hk
        obtain ⟨hk1, hk2⟩ := Bool.and_eq_true_iff.mp hk
        cases e
        obtain ⟨b, rfl, rfl, rfl, kb⟩ := tkey_at I r3 ri hk1
        cases (show ov = Value.ref a from ro)
        refine nd_set hu I (hn.in_ I rk) (of_decide_eq_true hk2) (by rw [hn.1]; exact True.intro) hk1 kb rv fun ndx s' I' => ⟨_, I', ?_⟩
        exact fin_nd g2 hm' ma q (put_nd hk1 hn.2.1 hn.2.2 ndx (Reps.widen kf _ _ _ rk) (Reps.widen kf _ _ _ rs) (Rep.widen kf _ _ _ r3) g1)
      · cases e
    · cases e
  · cases e
end Ev
end
section
set_option Elab.async false
set_option linter.all false
set_option maxRecDepth 100000
namespace Ev
open PySem PySem.Spec PyProof.Rows L2 PySem.SeqAt
/-! ### statements: the reading -/
def FFin (T : Pgm) (W : WX) (H : Hp) (μ : List Addr) (D : Ends) : Option (Fl × Sto) → Prop
  | some (.nx ρ', S') => ∀ σ' H' μ', Stp H μ H' μ' → StOk T H' μ' S' → EnvOk T H' μ' σ' ρ' → D.nx σ' H'
  | some (.ret d, S') => ∀ v H' μ' fp, Pst T H μ d S' v H' μ' fp → D.rt v H'
  | some (.ex c, S') => ∀ σ' H' μ', Stp H μ H' μ' → StOk T H' μ' S' → W (.ref (T.C c)) none σ' H'
  | none => False
def tEvS (T : Pgm) (W : WX) (g : G) (s : PS) : TS := fun D σ H => ∃ ρ S μ, EnvOk T H μ σ ρ ∧ StOk T H μ S ∧ FFin T W H μ D (execS g s ρ S)
def tEvB (T : Pgm) (W : WX) (g : G) (s : List PS) : TS := fun D σ H => ∃ ρ S μ, EnvOk T H μ σ ρ ∧ StOk T H μ S ∧ FFin T W H μ D (execB g s ρ S)
section
variable {α : Type} {T : Pgm} {W : WX} {σ : Slots} {H H1 : Hp} {μ μ1 : List Addr} {D : Ends}
theorem FFin.bnd {m : Option (R α)} {f : α → Sto → Option (Fl × Sto)} (h : FFin T W H μ D (bndS m f)) : Ran T W σ H μ m fun a S => FFin T W H μ D (f a S) := by
  match m, h with
  | some (.ok a S), h => exact h
  | some (.ex c S), h => exact fun H' μ' s ok => h σ H' μ' s ok
theorem FFin.on {m : Option (Fl × Sto)} (s : Stp H μ H1 μ1) (h : FFin T W H μ D m) : FFin T W H1 μ1 D m := by
  match m, h with
  | some (.nx ρ', S'), h => exact fun σ' H' μ' s' => h σ' H' μ' (s.trans s')
  | some (.ret d, S'), h => exact fun v H' μ' fp p => h v H' μ' fp ⟨s.trans p.stp, p.ok, p.rep, p.nd, fun a m => s.free (p.new a m)⟩
  | some (.ex c, S'), h => exact fun σ' H' μ' s' => h σ' H' μ' (s.trans s')
theorem FFin.tests {m : Option (R Ev.D)} {f : Bool → Sto → Option (Fl × Sto)} (h : FFin T W H μ D (tests m f fun c S => some (.ex c, S))) : Ran T W σ H μ (testE m) fun b S => FFin T W H μ D (f b S) := by
  match m, h with
  | some (.ok d S), h =>
    have h' : FFin T W H μ D (match truth S d with | some b => f b S | none => none) := h
    show Ran T W σ H μ (match truth S d with | some b => some (.ok b S) | none => none) _
    cases e : truth S d with
    | none => rw [e] at h'; exact h'.elim
    | some b => rw [e] at h'; exact h'
  | some (.ex c S), h => exact fun H' μ' s ok => h σ H' μ' s ok
theorem FFin.guard {lk : Option (Nat × List Ev.D)} {S : Sto} {x : Option (Fl × Sto)} (h : FFin T W H μ D (guardS lk S x)) : stays lk S ∧ FFin T W H μ D x := by
  unfold guardS at h
  split at h
  · exact ⟨by assumption, h⟩
  · exact h.elim
/-- a value goes into a target -/
theorem FFin.tg {tg : Tg} {d : Ev.D} {v : V} {fp : List Addr} {S1 : Sto} {ρ : Env} (env : EnvOk T H μ σ ρ) (st : Kinds H μ) (p : Pst T H μ d S1 v H1 μ1 fp)
    (h : FFin T W H μ D (match setTg tg d ρ S1 with | some (ρ', S) => some (.nx ρ', S) | none => none)) : gTg T tg v σ H1 D.nx := by
  cases e : setTg tg d ρ S1 with
  | none => rw [e] at h; exact h.elim
  | some q =>
    obtain ⟨ρ', S'⟩ := q
    rw [e] at h
    exact setTg_ok (env.keep st p.stp) p.ok p.rep p.nd e fun σ' env' ok' _ => h σ' H1 (μ1 ++ fp) (Stp.own (own := []) p.stp p.new) ok' env'
end
def noComp : Expr → Bool
  | .ListComp _ _ _ _ => false
  | .SetComp _ _ _ _ => false
  | .DictComp _ _ _ _ _ => false
  | _ => true
theorem sw_no {e : Expr} {t : Option Expr} {l : Nat} {env : PySem.Env} (h : noComp e = true) : swapsWith e t l env = pure false := by
  cases e <;> first | rfl | cases h
def isTup : Expr → Bool
  | .Tuple _ _ _ => true
  | _ => false
section
variable {X : Cx} {C : Nat → Addr} {W : WX} {n m : Nat} {g : G} {cc : CC} {a b c e : PE} {x y z : Expr} {p p' : Pos} {es : List PE} {xs : List Expr}
theorem PS.mono {st : Stmt} {t t' : TS} (h : L2.PS X st t) (m : ∀ D σ H, t' D σ H → t D σ H) : L2.PS X st t' := ⟨fun pins s σ H D I q => h.run pins s σ H D I (m D σ H q)⟩
theorem PSs.mono {st : List Stmt} {t t' : TS} (h : L2.PSs X st t) (m : ∀ D σ H, t' D σ H → t D σ H) : L2.PSs X st t' := ⟨fun pins s σ H D I q => h.run pins s σ H D I (m D σ H q)⟩
theorem set_read {i : Nat} {D : Ends} {σ : Slots} {H : Hp} (h : tEvS (tOf X C) W g (.set i e) D σ H) : tAsg (tEv (tOf X C) W g e) (gName i) D σ H := by
  obtain ⟨ρ, S, μ, env, st, h⟩ := h
  unfold execS at h
  exact ev1 env st h.bnd fun d S1 v H1 μ1 fp p k => FFin.tg (tg := .nm i) env st.kinds p k
theorem t_set {i : Nat} {nm : Str} {py : Pos} (G : Good C W n g cc X) (hn : chkNm cc i (.Name nm py) = true) (he : L2.PE X x (tEv (tOf X C) W g e)) (hx : noComp x = true) : L2.PS X (.Assign [.Name nm py] x p) (tEvS (tOf X C) W g (.set i e)) := by
  obtain ⟨h1, h2⟩ := Bool.and_eq_true_iff.mp (show (decide (cc.N[i]? = some nm) && loc cc.sc nm) = true from hn)
  exact PS.mono (ps_set (by rw [G.hN]; exact G.nd) (by rw [G.hN]; exact of_decide_eq_true h1) (G.sc.loc h2) he (sw_no hx) (G.fn nm h2)) fun D σ H h => set_read h
theorem t_setT {is : List Nat} {ts : List Expr} {kk : Nat} {pt : Pos} (G : Good C W n g cc X) (ht : chkTg cc (.tp is) (.Tuple ts kk pt) = true) (he : L2.PE X x (tEv (tOf X C) W g e)) (hx : swappedStores [.Tuple ts kk pt] x X.env = pure none) :
    L2.PS X (.Assign [.Tuple ts kk pt] x p) (tEvS (tOf X C) W g (.setT is e)) := by
  have sw : swapsWithSole [.Tuple ts kk pt] x p.line X.env = pure false := by cases x <;> rfl
  refine PS.mono (ps_asg he (pg_tg G ht) sw hx rfl) fun D σ H ⟨ρ, S, μ, env, st, h⟩ => ?_
  unfold execS at h
  exact ev1 env st h.bnd fun d S1 v H1 μ1 fp p k => FFin.tg env st.kinds p k
theorem no_tup {ts : List Expr} {kk : Nat} {pt : Pos} {env : PySem.Env} (h : isTup x = false) : swappedStores [.Tuple ts kk pt] x env = pure none := by
  cases x <;> first | rfl | cases h
theorem par_eq {is : List Nat} {ρ : Env} {S : Sto} : execS g (.par is es) ρ S = execS g (.setT is (.tup es)) ρ S := by
  unfold execS evalE
  cases evalEs g es ρ S with
  | none => rfl
  | some r => cases r <;> rfl
theorem t_parB {is : List Nat} {ts vs : List Expr} {kk k2 : Nat} {pt p2 : Pos} (G : Good C W n g cc X) (ht : chkTg cc (.tp is) (.Tuple ts kk pt) = true) (he : L2.PE X (.Tuple vs k2 p2) (tEv (tOf X C) W g (.tup es))) (hf : vs.all (foldedForSure 8) = true) :
    L2.PS X (.Assign [.Tuple ts kk pt] (.Tuple vs k2 p2) p) (tEvS (tOf X C) W g (.par is es)) := by
  have hx : swappedStores [.Tuple ts kk pt] (.Tuple vs k2 p2) X.env = pure none := by
    unfold swappedStores
    simp only [hf, if_true]
    split
    · rfl
    split
    · rfl
    split
    · rfl
    · rfl
  refine PS.mono (t_setT G ht he hx) fun D σ H ⟨ρ, S, μ, env, st, h⟩ => ⟨ρ, S, μ, env, st, ?_⟩
  rw [← par_eq]; exact h
def isLoc (cc : CC) (x : Str) : Bool := decide (cc.sc.names.lookup x = some .local)
theorem isLoc_ok (G : Good C W n g cc X) {nm : Str} (h : isLoc cc nm = true) : X.env.scope.names.lookup nm = some .local := by
  obtain ⟨k, h1, h2⟩ := G.sc.look nm _ (of_decide_eq_true h)
  rcases h2 with rfl | ⟨z, _⟩
  · exact h1
  · cases z
theorem t_parA {i j : Nat} {x1 x2 : Str} {v1 v2 : Expr} {kk k2 : Nat} {pt p2 px py : Pos} (G : Good C W n g cc X) (h1 : cc.N[i]? = some x1) (h2 : cc.N[j]? = some x2) (hij : i ≠ j) (l1 : isLoc cc x1 = true) (l2 : isLoc cc x2 = true) (hne : x1 ≠ x2)
    (ha : PA X [v1, v2] (tEvs (tOf X C) W g es)) (hns : [v1, v2].all noStar = true) (hln : (py.line == px.line) = true) (hf : [v1, v2].all (foldedForSure 8) = false) (hcst : [v1, v2].all (constantsAlone 8) = false) :
    L2.PS X (.Assign [.Tuple [.Name x1 px, .Name x2 py] kk pt] (.Tuple [v1, v2] k2 p2) p) (tEvS (tOf X C) W g (.par [i, j] es)) := by
  have k1 := isLoc_ok G l1
  have k2' := isLoc_ok G l2
  refine ⟨fun pins s σ H D I h => ?_⟩
  have hw : swappedStores [.Tuple [.Name x1 px, .Name x2 py] kk pt] (.Tuple [v1, v2] k2 p2) X.env = pure (some [x1, x2]) := by
    have hb : X.env.blockKind = .function := by unfold Env.blockKind; rw [I.ok.kind]; rfl
    have e1 : (X.env.kindOf x1 == some .local) = true := by
      show (X.env.scope.names.lookup x1 == some .local) = true
      rw [k1]; rfl
    have e2 : (X.env.kindOf x2 == some .local) = true := by
      show (X.env.scope.names.lookup x2 == some .local) = true
      rw [k2']; rfl
    have hst : ([v1, v2].any fun | .Starred .. => true | _ => false) = false := by
      rw [List.all_cons, List.all_cons, Bool.and_eq_true, Bool.and_eq_true] at hns
      have q : ∀ v : Expr, noStar v = true → (match v with | .Starred .. => true | _ => false) = false := fun v h => by
        cases v <;> first | rfl | cases h
      simp only [List.any_cons, List.any_nil, Bool.or_false, Bool.or_eq_false_iff]
      exact ⟨q v1 hns.1, q v2 hns.2.1⟩
    have ed : ([x1, x2] : List Str).eraseDups = [x1, x2] := by
      rw [List.eraseDups_cons, List.filter_cons_of_pos (by simpa using fun e => hne e.symm), List.filter_nil, List.eraseDups_cons, List.filter_nil, List.eraseDups_nil]
    have hp1 : (px.line == px.line) = true := by simp
    unfold swappedStores
    simp only [hf, hcst, hst, hb, List.head?_cons, Option.map_some, Option.getD_some, Expr.pos, List.filterMap_cons, List.filterMap_nil, e1, e2, hln, hp1, Bool.and_self, if_true, ed, List.length_cons, List.length_nil]
    refine (if_neg (by decide)).trans ((if_neg fun hh => ?_).trans ((if_neg (by decide)).trans rfl))
    exact Bool.false_ne_true (hst.symm.trans hh)
  have sw : swapsWithSole [.Tuple [.Name x1 px, .Name x2 py] kk pt] (.Tuple [v1, v2] k2 p2) p.line X.env = pure false := rfl
  refine (ps_par (pos := p) G.calm (by rw [G.hN]; exact G.nd) (by rw [G.hN]; exact h1) (by rw [G.hN]; exact h2) hij k1 k2' ha hw sw).run pins s σ H D I ?_
  obtain ⟨ρ, S, μ, env, st, h⟩ := h
  unfold execS at h
  refine evse env st h.bnd fun ds S1 vs H1 μ1 fp e1 p1 k => ?_
  cases e : setTg (.tp [i, j]) (.tup ds) ρ S1 with
  | none => rw [e] at k; exact k.elim
  | some q =>
    obtain ⟨ρ', S'⟩ := q
    rw [e] at k
    obtain ⟨ρ2, e2, e3⟩ := Option.map_eq_some_iff.mp (show (setNames [i, j] (settles ds S1).1 ρ).map (fun ρ' => (ρ', (settles ds S1).2)) = some (ρ', S') from e)
    cases e3
    obtain ⟨r1, ok1⟩ := settles_ok ds vs fp μ1 S1 p1.rep p1.ok p1.nd
    have env1 : EnvOk (tOf X C) H1 (μ1 ++ fp) σ ρ := env.keep st.kinds (Stp.own (own := []) p1.stp p1.new)
    obtain ⟨b1, b2⟩ := EnvOk.names [i, j] _ vs σ ρ _ env1 r1 e2
    match vs, b1, b2 with
    | [v, w], _, b2 => exact ⟨v, w, rfl, k _ H1 _ (Stp.own (own := []) p1.stp p1.new) ok1 b2⟩
theorem t_setI {o i v : PE} {ox ix vx : Expr} {sp : Pos} (G : Good C W n g cc X) (ho : L2.PE X ox (tEv (tOf X C) W g o)) (hi : L2.PE X ix (tEv (tOf X C) W g i)) (hv : L2.PE X vx (tEv (tOf X C) W g v)) (hix : noSlice ix = true) :
    L2.PS X (.Assign [.Subscript ox ix sp] vx p) (tEvS (tOf X C) W g (.setI o i v)) := by
  have sw : swapsWithSole [.Subscript ox ix sp] vx p.line X.env = pure false := by cases vx <;> rfl
  have ha : ∀ v, assign (.Subscript ox ix sp) X.env v = (do
      let ov ← holding [v] (eval ox X.env)
      let iv ← holding [v, ov] (eval ix X.env)
      standAt sp
      holding [v, ov, iv] (setItem ov iv v)
      release [v, ov, iv] []) := fun v => by
    cases ix <;> first | rfl | cases hix
  have hu : X.A.units + 20 < cLine := by have := G.units; omega
  refine PS.mono (ps_asg hv (pg_sub ho hi (set_d (C := C) hu) ha) sw rfl rfl) fun D σ H ⟨ρ, S, μ, env, st, h⟩ => ?_
  unfold execS at h
  refine ev1 env st h.bnd fun dv S1 w H1 μ1 f1 p1 k => ?_
  have env1 := env.keep st.kinds p1.stp
  refine ev1 env1 p1.ok ((FFin.bnd k).on p1.stp) fun d S2 u H2 μ2 f2 p2 k2 => ?_
  have env2 := env1.keep p1.ok.kinds p2.stp
  refine ev1 env2 p2.ok ((FFin.bnd k2).on (p1.stp.trans p2.stp)) fun di S3 w3 H3 μ3 f3 p3 k3 => ?_
  cases e : setItE d di dv S3 with
  | none => rw [e] at k3; exact k3.elim
  | some S' =>
    rw [e] at k3
    have s13 := p2.stp.trans p3.stp
    have r1 : Rep (tOf X C) H3 μ3 dv w f1 := Rep.keep p1.ok.kinds s13 _ _ _ p1.rep (nd_out p1.nd)
    have nd1 : (μ3 ++ f1).Nodup := by
      have := nd_step (f2 := []) s13 p1.nd (by simpa using p3.ok.nd) (Rep.there _ _ _ p1.rep) (by simp)
      simpa using this
    refine ⟨dv, d, di, S3, μ3, f1, f2, f3, S', r1, Rep.keep p2.ok.kinds p3.stp _ _ _ p2.rep (nd_out p2.nd), p3.rep, p3.ok, nd1, e, fun H' μ' so ok' => ?_⟩
    have s3 : Stp H μ H3 μ3 := p1.stp.trans s13
    have s' : Stp H μ H' μ' := StpO.of s3 p1.new (nd_out nd1) so
    exact k3 σ H' μ' s' ok' (env.keep st.kinds s')
end
end Ev
end
section
set_option Elab.async false
set_option linter.all false
set_option maxRecDepth 100000
namespace Ev
open PySem PySem.Spec PyProof.Rows L2 PySem.SeqAt
section
variable {X : Cx} {pins : List (Addr × Obj)} {σ : L2.St} {H : Hp} {s : Shared}
/-- the object of a caught error is known from now on -/
theorem inv_noted {a c : Addr} {o : Obj} {vs : Array Value} (J : Inv X pins σ H s) (e : s.heap.get? a = some o) (hc : o.cls = .ref c) (hd : o.dict = none) (hv : o.data = .fields vs) (ha : H a = none) (h0 : X.s_0.heap.get? a = none)
    (hl : a ≠ X.env.locals) (hp : ∀ p ∈ X.pn ++ pins, p.1 ≠ a) : Inv X pins σ (L2.upd H a (excHO c a)) s := by
  have ne : ∀ {b : Addr} {u : HO}, H b = some u → b ≠ a := fun q z => by rw [z, ha] at q; cases q
  refine ⟨J.ok, J.os, J.bare, ⟨J.base.keep, J.base.slot, fun b u q1 q2 q3 => ?_, J.base.there, fun b xs q => ?_, fun b u xs q => ?_, fun b ps q => ?_⟩, J.loc, J.cell, ?_, fun x k q => ?_, fun p hm => ?_, fun b u q => ?_, J.len⟩
  · rw [upd_ne fun z => by rw [z, h0] at q1; cases q1]
    exact J.base.free b u q1 q2 q3
  · have z := J.base.tups b xs q
    rw [upd_ne (ne z)]; exact z
  · have z := J.base.frzs b u xs q
    rw [upd_ne (ne z)]; exact z
  · obtain ⟨more, z⟩ := J.base.tbls b ps q
    exact ⟨more, by rw [upd_ne (ne z)]; exact z⟩
  · rw [upd_ne fun z => hl z.symm]; exact J.free
  · obtain ⟨w, oc, hoc, hdc⟩ := J.cell x k q
    rw [upd_ne fun z => by rw [z, e] at hoc; cases hoc; rw [hv] at hdc; cases hdc]
    exact J.freeC x k q
  · obtain ⟨z1, z2, z3⟩ := J.pin p hm
    exact ⟨z1, by rw [upd_ne (hp p hm)]; exact z2, z3⟩
  · by_cases hb : b = a
    · subst hb
      rw [upd_same] at q
      cases q
      exact ⟨⟨o, vs, e, hc, hd, hv⟩, ⟨o, e⟩, fun h1 h2 ⟨o', vs', z, r⟩ k => ⟨o', vs', k o' z, r⟩⟩
    · rw [upd_ne hb] at q
      refine (J.hok b u q).stay (fun _ _ _ z => z) (fun k z => ?_) fun k xs z => ?_
      · rw [upd_ne (ne z)]; exact z
      · rw [upd_ne (ne z)]; exact z
end
/-- what is wished of an error in the body: it comes into slot i; j is the slot of the clause's name -/
def wKeep (K : PySem.W.Frag) (c : Value) (i j : Nat) (Wo : WX) (D : Ends) : WX := fun cls d σ H => ∃ b, PySem.W.exmOne K cls c = some b ∧
  (b = true → ∃ r, cls = .ref r ∧ d = none ∧ ∀ a, H a = none → D.nx (((σ.set j (some (.ref a))).set i (some (.ref a))).set j none) (L2.upd H a (excHO r a))) ∧ (b = false → Wo cls d σ H)
theorem try_keep {X : Cx} {x n y : Str} {c : Value} {i j : Nat} {body : List Stmt} {q1 q2 q3 q4 q5 q6 : Pos} {tb : WX → TS} {Wo : WX} (hs : X.stack = X.env :: X.outer) (hf : X.env.frame = some X.env.locals) (hex : X.ex = []) (hN : X.N.Nodup)
    (hi : X.N[i]? = some y) (hy : X.env.scope.names.lookup y = some .local) (hj : X.N[j]? = some n) (hn : X.env.scope.names.lookup n = some .local) (hd1 : (n == ("__debug__" : Str)) = false) (hd2 : (n == ("__classdict__" : Str)) = false) (hc : Names X x c) (tk : Takes X Wo)
    (hb : ∀ (W : WX) (pn : List (Addr × Obj)) (xe : Value → Shared → Prop), Takes (X.tr pn xe) W → PassesOwn (model X.prog X.w) X.A X.env xe → PSs (X.tr pn xe) body (tb W)) :
    L2.PS X (.Try body [.ExceptHandler (some (.Name x q1)) (some n) [.Assign [.Name y q2] (.Name n q3) q4] q5] [] [] q6) (fun D σ H => tb (wKeep X.K c i j Wo D) D σ H) := by
  refine ⟨fun ps s0 σ0 H0 D I0 h0 => ?_⟩
  have okX := I0.ok
  have fr : X.A.frames = some (X.env :: X.outer) := by rw [okX.frames, hs]
  refine wpAny_Try_except ?_
  refine wpAny_mono ((hb (wKeep X.K c i j Wo D) (X.pn ++ ps) _ ?caught PassesOwn.looking).run [] s0 σ0 H0 D (I0.toTry _) h0) ?quiet (fun _ _ z => z)
  case quiet =>
    intro f s1 q
    cases f with
    | next => obtain ⟨σ1, H1, J1, z⟩ := q; exact wpAny_execs_nil ⟨σ1, H1, J1.ofTry okX, z⟩
    | ret v => obtain ⟨w, σ1, H1, J1, r, z⟩ := q; exact ⟨w, σ1, H1, J1.ofTry okX, r, z⟩
    | brk => obtain ⟨σ1, H1, J1, z⟩ := q; exact ⟨σ1, H1, J1.ofTry okX, z⟩
    | cont => obtain ⟨σ1, H1, J1, z⟩ := q; exact ⟨σ1, H1, J1.ofTry okX, z⟩
  case caught =>
    intro u s1 xx
    obtain ⟨a, B, sI, ps1, σ1, H1, cls, d, rfl, J0, nb, up, sky, na, os, ag, b, hm, hyes, hno⟩ := xx
    have J : Inv X ps σ1 H1 sI := J0.ofTry okX
    rw [show (X.tr (X.pn ++ ps) _).stack = X.env :: X.outer from hs] at sky
    show wpAny (model X.prog X.w) X.A (noteFrame (.ref a) X.env) _ _ _
    refine Sky.land Zc.steady fr hf sky fun h3 fl up3 => ?_
    have J3 : Inv X ps σ1 H1 { s1 with heap := h3 } := J.landed nb fl.1 (up.trans up3) os ag
    obtain ⟨o3, v3, e3, z3, d3⟩ := fl.there
    -- a is no frame
    have nofr : a ∉ frs (X.env :: X.outer) := fun m => by
      obtain ⟨_, o, eo, nf⟩ := fl.2.2.1.mem m
      rw [e3] at eo; cases eo
      exact nf _ d3
    have nl : a ≠ X.env.locals := fun z => nofr (List.mem_filterMap.mpr ⟨X.env, List.mem_cons_self, by rw [hf, z]⟩)
    have nfs : a ∉ X.fs := fun m => by
      obtain ⟨e, me, q⟩ := List.mem_filterMap.mp m
      exact nofr (List.mem_filterMap.mpr ⟨e, List.mem_cons_of_mem _ me, q⟩)
    -- a is new
    have new : sI.heap.get? a = none := by
      cases q : sI.heap.get? a with
      | none => rfl
      | some o =>
        have z := nb a o q (by rw [show (X.tr (X.pn ++ ps) _).stack = X.env :: X.outer from hs]; exact nofr)
        rw [fl.2.1] at z; cases z
    have new0 : X.s_0.heap.get? a = none := by
      cases q : X.s_0.heap.get? a with
      | none => rfl
      | some o =>
        obtain ⟨o', z⟩ := J.base.there a o q (by rw [hex]; exact fun z => nomatch z)
        rw [new] at z; cases z
    have npin : ∀ p ∈ X.pn ++ ps, p.1 ≠ a := fun p m z => by
      have q := (J.pin p m).1
      rw [z, new] at q; cases q
    have Js := J3.suite e3 d3 na nl nfs
    refine wpAny_handleBy_cons (codeAny_handlers_test ?_) (by intro z; cases z)
    have lt : PySem.W.Looks (model X.prog X.w) h3 (typeOf (.ref a)) cls := fun A Q E s k q => wpAny_typeOf_ref (k _ _ e3) (by rw [z3.1]; exact q)
    have lm := PySem.W.exm_one (M := model X.prog X.w) J3.kIn lt hm
    have name : ∀ {Q E : Value → Shared → Prop}, Q c { s1 with heap := h3 } → wpAny (model X.prog X.w) (X.A.mark (some (.ref a))) (eval (.Name x q1) X.env) Q E { s1 with heap := h3 } := fun {Q E} q => by
      obtain ⟨g1, g2, g3⟩ := hc
      rcases g3 with g3 | ⟨g3, g4, g5⟩
      · exact ld_glob (X := X.suite a ((a, o3) :: (X.pn ++ ps))) Js g1 g3 q g2
      · exact ld_blt (X := X.suite a ((a, o3) :: (X.pn ++ ps))) Js g1 g3 g4 q g5 g2
    refine name (lm.here ?_)
    cases b with
    | false =>
      show wpAny _ X.A (handleBy (.ref a) X.env []) _ _ _
      refine wpAny_handleBy_nil ?_
      obtain ⟨_, _, _, oe, vs, T, oT, ts, ee, _, ed, e1, _⟩ := id fl
      unfold PySem.passOn
      refine wpAny_bind (wpAny_field ee ed e1 ?_)
      rw [if_neg (show ¬ ((Value.ref T == Value.none) = true) from by simp)]
      have on : wpAny (model X.prog X.w) X.A (setFlight (.ref a) X.env.frame) (fun _ s4 => wpAny (model X.prog X.w) X.A (throw (.ref a) : Sem Flow) (SP X ps D) X.xe s4) X.xe { s1 with heap := h3 } := by
        rw [hf]
        refine HandSPX.setFlight_upZ fl fun h4 held up4 => wpAny_throw (tk _ _ ⟨a, B, sI, ps, σ1, H1, cls, d, rfl, J, nb, (up.trans up3).trans up4, .inr (.inr (by rw [hs]; exact held)), na, os, ag, hno rfl⟩)
      first
        | exact wpAny_bind (wpAny_pure (wpAny_bind on))
        | exact wpAny_bind on
    | true =>
      obtain ⟨r, rfl, rfl, hnx⟩ := hyes rfl
      refine codeAny_handlers_suite_as (HandSPX.lands_againZ fl fun h4 fl4 up4 => ?_)
      have J4 : Inv X ps σ1 H1 { s1 with heap := h4 } := J.landed nb fl4.1 ((up.trans up3).trans up4) os ag
      obtain ⟨o4, v4, e4, z4, d4⟩ := fl4.there
      have J5 := J4.suite e4 d4 na nl nfs
      refine store_ok (X := X.suite a ((a, o4) :: (X.pn ++ ps))) (v := .ref a) J5 hN hj (.inl hn) rfl (fun s5 J6 => ?_) (.inr hn)
      have hlen : j < σ1.length := by rw [J.len]; exact (List.getElem?_eq_some_iff.mp hj).1
      have one : L2.PS (X.suite a ((a, o4) :: (X.pn ++ ps))) (.Assign [.Name y q2] (.Name n q3) q4) (tAsg (tVar j) (gName i)) := ps_set hN hi (.inl hy) (pe_var hj (.inl hn) hd1 hd2) rfl (.inr hy)
      refine wpAny_mono ((pss_cons one pss_nil).run [] s5 _ H1 { nx := fun σ6 H6 => σ6 = (σ1.set j (some (.ref a))).set i (some (.ref a)) ∧ H6 = H1, rt := fun _ _ => False, bk := fun _ _ => False, ct := fun _ _ => False } J6 ⟨.ref a, List.getElem?_set_self hlen, rfl, rfl⟩) (fun f s6 q => ?_) fun _ _ z => z.elim
      cases f with
      | next =>
        obtain ⟨σ6, H6, J7, rfl, rfl⟩ := q
        have pin := (J7.pin (a, o4) (List.mem_append.mpr (.inl List.mem_cons_self))).1
        have J8 := inv_noted (J7.unsuite okX) pin z4.1 z4.2 d4 na new0 nl npin
        exact gone_ok J8 hN hj hn fun s7 J9 => ⟨_, _, J9, hnx a na⟩
      | ret v => obtain ⟨_, _, _, _, _, z⟩ := q; exact z.elim
      | brk => obtain ⟨_, _, _, z⟩ := q; exact z.elim
      | cont => obtain ⟨_, _, _, z⟩ := q; exact z.elim
section
variable {X : Cx} {C : Nat → Addr} {W : WX} {n : Nat} {g : G} {cc : CC} {e : PE} {x : Expr} {p : Pos}
theorem t_raise {c : Nat} {nm m : Str} {jj : Nat} {p1 p2 p3 : Pos} (G : Good C W n g cc X) (hg : glob cc.sc nm = true) (hx : cc.cnames[c]? = some nm) : L2.PS X (.Raise (some (.Call (.Name nm p1) [.Constant (.str m) jj p2] [] p3)) none p) (tEvS (tOf X C) W g (.raise c)) := by
  obtain ⟨g1, g2, g3⟩ := G.gl hg
  obtain ⟨m1, m2⟩ := G.cls c nm hx
  obtain ⟨k1, k2, k3, k4⟩ := G.ec.made c (m2 c)
  refine PS.mono (ps_raise G.calm G.tk (pmk_own PySem.F.excBase_ValueError k1 m1 k2 (raises_own k3 k4) g1 g2)) fun D σ H ⟨ρ, S, μ, env, st, h⟩ => ?_
  unfold execS at h
  exact h σ H μ Stp.refl st
theorem t_aug {i : Nat} {o : Bin} {nm : Str} {p' : Pos} (G : Good C W n g cc X) (hn : chkNm cc i (.Name nm p') = true) (ho : o = .add ∨ o = .sub) (he : L2.PE X x (tEv (tOf X C) W g e)) : L2.PS X (.AugAssign (.Name nm p') (opOf o) x p) (tEvS (tOf X C) W g (.aug i o e)) := by
  obtain ⟨h1, h2⟩ := Bool.and_eq_true_iff.mp (show (decide (cc.N[i]? = some nm) && loc cc.sc nm) = true from hn)
  have hi : X.N[i]? = some nm := by rw [G.hN]; exact of_decide_eq_true h1
  have hN : X.N.Nodup := by rw [G.hN]; exact G.nd
  have key : ∀ (f : Int → Int → Int), PIp X (opOf o) (ipI f) → (∀ S a b, binE S o (.int a) (.int b) = some (.int (f a b))) → L2.PS X (.AugAssign (.Name nm p') (opOf o) x p) (tEvS (tOf X C) W g (.aug i o e)) := fun f hp hbin => by
    refine PS.mono (ps_aug hN hi (G.sc.loc h2) he hp (G.fn nm h2)) fun D σ H ⟨ρ, S, μ, env, st, h⟩ => ?_
    unfold execS at h
    split at h
    · rename_i d hd
      obtain ⟨v, e1, r1⟩ := env.2 i d hd
      refine ⟨v, e1, ev1 env st h.bnd fun y S1 w H1 μ1 fp q k => ?_⟩
      split at k
      · rename_i a b
        obtain ⟨rfl, _⟩ := r1
        obtain ⟨rfl, _⟩ := q.rep
        rw [hbin] at k
        have hfp : fp = [] := by
          have := q.rep.2
          exact this
        exact ⟨a, b, rfl, rfl, k _ _ _ q.stp q.ok ((env.keep st.kinds q.stp).set ⟨rfl, rfl⟩)⟩
      · exact k.elim
    · exact h.elim
  rcases ho with rfl | rfl
  · exact key (fun a b => a + b) ip_add fun _ _ _ => rfl
  · exact key (fun a b => a - b) ip_sub fun _ _ _ => rfl
/-- the frame is a def's own -/
structure Own (X : Cx) : Prop where
  hs : X.stack = X.env :: X.outer
  hf : X.env.frame = some X.env.locals
  hex : X.ex = []
theorem t_try {c i j : Nat} {nx ny nn : Str} {p1 p2 p3 p4 p5 p6 : Pos} (G : Good C W n g cc X) (O : Own X) (hx : glob cc.sc nx = true) (hc : cc.cnames[c]? = some nx) (hi : cc.N[i]? = some ny) (hy : isLoc cc ny = true) (hj : cc.N[j]? = some nn) (hn : isLoc cc nn = true)
    (hij : i ≠ j) (hd1 : nn ≠ "__debug__") (hd2 : nn ≠ "__classdict__") (hw : noComp x = true)
    (he : ∀ (W' : WX) (pn : List (Addr × Obj)) (xe : Value → Shared → Prop), Takes (X.tr pn xe) W' → L2.PE (X.tr pn xe) x (tEv (tOf X C) W' g e)) :
    L2.PS X (.Try [.Expr x p6] [.ExceptHandler (some (.Name nx p1)) (some nn) [.Assign [.Name ny p2] (.Name nn p3) p4] p5] [] [] p) (tEvS (tOf X C) W g (.try_ [.expr e] c i j)) := by
  obtain ⟨g1, g2, g3⟩ := G.gl hx
  obtain ⟨m1, m2⟩ := G.cls c nx hc
  refine PS.mono (try_keep (c := .ref (C c)) (i := i) (j := j) (Wo := W) (tb := fun W' => tDrop (tEv (tOf X C) W' g e)) O.hs O.hf O.hex (by rw [G.hN]; exact G.nd) (by rw [G.hN]; exact hi) (isLoc_ok G hy) (by rw [G.hN]; exact hj) (isLoc_ok G hn) (beq_eq_false_iff_ne.mpr hd1) (beq_eq_false_iff_ne.mpr hd2) ⟨g1, g2, .inl m1⟩ G.tk
    fun W' pn xe tk _ => PSs.mono (pss_cons (ps_expr (he W' pn xe tk) (sw_no hw)) pss_nil) fun D σ H h => h) fun D σ H ⟨ρ, S, μ, env, st, h⟩ => ?_
  refine ⟨ρ, S, μ, env, st, ?_⟩
  unfold execS execB execS execB at h
  cases hv : evalE g e ρ S with
  | none => rw [hv] at h; exact h.elim
  | some q =>
    rw [hv] at h
    cases q with
    | ok d S1 => exact fun v H1 μ1 fp p => h σ H1 μ1 p.stp p.ok (env.keep st.kinds p.stp)
    | ex cx S1 =>
      intro H1 μ1 s1 ok1
      refine ⟨g.isa cx (.cls c), G.ec.exm cx c (m2 cx), fun hb => ⟨C cx, rfl, rfl, fun a ha => ?_⟩, fun hb => ?_⟩
      · have h' : FFin (tOf X C) W H μ D (some (.nx ((ρ.set i (some (.exc cx))).set j none), S1)) := by
          have h0 : FFin (tOf X C) W H μ D (if g.isa cx (.cls c) then some (.nx ((ρ.set i (some (.exc cx))).set j none), S1) else some (.ex cx, S1)) := h
          rwa [if_pos hb] at h0
        have hs : ((σ.set j (some (V.ref a))).set i (some (V.ref a))).set j none = (σ.set i (some (V.ref a))).set j none := by
          rw [List.set_comm _ _ (Ne.symm hij), List.set_set]
        rw [hs]
        have su : Stp H1 μ1 (L2.upd H1 a (excHO (C cx) a)) μ1 := Stp.upd ha
        have sm : Same H1 (L2.upd H1 a (excHO (C cx) a)) := fun b o q => by rw [upd_ne (ne_of_none q ha)]; exact q
        have nm : a ∉ μ1 := fun m => by
          rcases ok1.kinds a m with ⟨vs, z⟩ | ⟨vs, z⟩ | ⟨vs, z⟩ <;> (rw [ha] at z; cases z)
        refine h' _ _ μ1 (s1.trans su) (StOk.same sm ok1) (EnvOk.drop (EnvOk.set ((env.keep st.kinds s1).keep ok1.kinds su) ⟨a, rfl, upd_same, ⟨nm, m2 cx⟩, rfl⟩))
      · have h0 : FFin (tOf X C) W H μ D (if g.isa cx (.cls c) then some (.nx ((ρ.set i (some (.exc cx))).set j none), S1) else some (.ex cx, S1)) := h
        rw [if_neg (by simp [hb])] at h0
        exact h0 σ H1 μ1 s1 ok1
theorem set_here {σ : Slots} {i : Nat} {v : V} (h : σ[i]? = some (some v)) : σ.set i (some v) = σ := by
  obtain ⟨hl, e⟩ := List.getElem?_eq_some_iff.mp h
  rw [← e]
  exact List.set_getElem_self hl
theorem t_augL {i : Nat} {nm : Str} {p' : Pos} (G : Good C W n g cc X) (hn : chkNm cc i (.Name nm p') = true) (he : L2.PE X x (tEv (tOf X C) W g e)) : L2.PS X (.AugAssign (.Name nm p') .Add x p) (tEvS (tOf X C) W g (.augL i e)) := by
  obtain ⟨h1, h2⟩ := Bool.and_eq_true_iff.mp (show (decide (cc.N[i]? = some nm) && loc cc.sc nm) = true from hn)
  have hi : X.N[i]? = some nm := by rw [G.hN]; exact of_decide_eq_true h1
  have hN : X.N.Nodup := by rw [G.hN]; exact G.nd
  refine PS.mono (ps_aug hN hi (G.sc.loc h2) he (show PIp X .Add rExt2 from iop_ext) (G.fn nm h2)) fun D σ H ⟨ρ, S, μ, env, st, h⟩ => ?_
  unfold execS at h
  split at h
  · rename_i k hd
    obtain ⟨v, e1, r1⟩ := env.2 i _ hd
    obtain ⟨l, rfl, hm, _⟩ := r1
    refine ⟨_, e1, ev1 env st h.bnd fun y S1 w H1 μ1 fp q k1 => ?_⟩
    split at k1
    · rename_i es
      split at k1
      · rename_i ds hS
        split at k1
        · rename_i hl
          obtain ⟨b, vs, fp', rfl, hb, rv, rfl⟩ := q.rep
          have hm1 := q.stp.get hm
          obtain ⟨xs, hx, rs⟩ := q.ok.at_ _ _ _ hS hm1
          have nd' : (μ1 ++ fp').Nodup := by
            have z := q.nd
            rw [← List.append_assoc] at z
            exact (List.nodup_append.mp z).1
          obtain ⟨g1, g2⟩ := settles_ok es vs fp' μ1 S1 rv q.ok nd'
          have kf := Reps.kinds es vs fp' rv
          have hm' : (μ1 ++ fp')[_]? = some l := widen_g _ l hm1
          have ok' := put_list g2 hm' (Reps.append _ _ _ _ _ _ (Reps.widen kf _ _ _ rs) g1)
          have nw : ∀ a ∈ fp', H a = none := fun a m => q.new a (List.mem_append_left _ m)
          have st' : Stp H μ (upd H1 l (.lst (xs ++ vs))) (μ1 ++ fp') := StpO.of q.stp nw (nd_out nd') (StpO.put (List.mem_of_getElem? hm1) fun b hb => hb)
          refine ⟨l, b, xs, vs, rfl, rfl, hx, hb, by rw [Reps.len _ _ _ rs, Reps.len _ _ _ rv]; exact of_decide_eq_true hl, ?_⟩
          show D.nx (σ.set i (some (.ref l))) _
          rw [set_here e1]
          exact k1 σ _ _ st' ok' (env.keep st.kinds st')
        · exact k1.elim
      · exact k1.elim
    · exact k1.elim
  · exact h.elim
theorem t_tryS {c i : Nat} {nx nm : Str} {py ps p1 p5 : Pos} {b₀ : Stmt} {suite : List Stmt} (G : Good C W n g cc X) (O : Own X) (hx : glob cc.sc nx = true) (hc : cc.cnames[c]? = some nx) (hn : chkNm cc i (.Name nm py) = true) (hw : noComp x = true)
    (he : ∀ (W' : WX) (pn : List (Addr × Obj)) (xe : Value → Shared → Prop) (tk : Takes (X.tr pn xe) W'), L2.PE (X.tr pn xe) x (tEv (tOf X C) W' g e) ∧ Good C W' n g cc (X.tr pn xe)) :
    L2.PS X (.Try [.Assign [.Name nm py] x ps] [.ExceptHandler (some (.Name nx p1)) none (b₀ :: suite) p5] [] [] p) (tEvS (tOf X C) W g (.tryS i e c)) := by
  obtain ⟨g1, g2, g3⟩ := G.gl hx
  obtain ⟨m1, m2⟩ := G.cls c nx hc
  refine PS.mono (ps_try_only (c := .ref (C c)) (Wout := W) (tb := fun W' => tEvB (tOf X C) W' g [.set i e]) (ts := fun _ _ _ _ _ _ => False) O.hs O.hf ⟨g1, g2, .inl m1⟩ G.tk
    (fun W' pn xe tk _ => ?_) fun a oe cls d pn _ _ => ⟨fun _ _ _ _ _ _ z => z.elim⟩) fun D σ H ⟨ρ, S, μ, env, st, h⟩ => ?_
  · obtain ⟨h1, h2⟩ := he W' pn xe tk
    exact PSs.mono (pss_cons (t_set h2 hn h1 hw) pss_nil) fun D σ H ⟨ρ, S, μ, env, st, h⟩ => by
      refine ⟨ρ, S, μ, env, st, ?_⟩
      unfold execB at h
      revert h
      cases execS g (.set i e) ρ S with
      | none => exact fun h => h
      | some r =>
        obtain ⟨fl, S1⟩ := r
        cases fl with
        | nx ρ1 =>
          intro h σ' H' μ' s1 ok1 env1
          have h' : FFin (tOf X C) W' H μ D (execB g [] ρ1 S1) := h
          unfold execB at h'
          exact h' σ' H' μ' s1 ok1 env1
        | ret d => exact fun h => h
        | ex c => exact fun h => h
  · refine ⟨ρ, S, μ, env, st, ?_⟩
    unfold execS at h
    unfold execB execS
    cases hv : evalE g e ρ S with
    | none => rw [hv] at h; exact h.elim
    | some q =>
      rw [hv] at h
      cases q with
      | ok d S1 => unfold execB; exact h
      | ex cx S1 =>
        intro σ1 H1 μ1 s1 ok1
        have h0 : FFin (tOf X C) W H μ D (if g.isa cx (.cls c) then none else some (.ex cx, S1)) := h
        refine ⟨g.isa cx (.cls c), G.ec.exm cx c (m2 cx), fun hb => ?_, fun hb => ?_⟩
        · rw [if_pos hb] at h0; exact h0.elim
        · rw [if_neg (by simp [hb])] at h0
          exact h0 σ1 H1 μ1 s1 ok1
end
end Ev
end
section
set_option Elab.async false
set_option linter.all false
set_option maxRecDepth 100000
namespace Ev
open PySem PySem.Spec PyProof.Rows L2 PySem.SeqAt
/-! ### while, counted -/
def WRun (c : Env → Sto → Option (R D)) (b : Env → Sto → Option (Fl × Sto)) : Nat → Env → Sto → Fl × Sto → Prop
  | 0, _, _, _ => False
  | n + 1, ρ, S, r => match c ρ S with
    | none => False
    | some (.ex x S) => r = (.ex x, S)
    | some (.ok d S) => match truth S d with
      | none => False
      | some false => r = (.nx ρ, S)
      | some true => match b ρ S with
        | none => False
        | some (.ret d, S) => r = (.ret d, S)
        | some (.ex x, S) => r = (.ex x, S)
        | some (.nx ρ', S') => WRun c b n ρ' S' r
theorem wrun_of {c : Env → Sto → Option (R D)} {b : Env → Sto → Option (Fl × Sto)} : ∀ (ρ : Env) (S : Sto) (r : Fl × Sto), whileL c b ρ S = some r → ∃ n, WRun c b n ρ S r := by
  refine whileL.partial_correctness c b (fun ρ S r => ∃ n, WRun c b n ρ S r) fun wl ih ρ S r h => ?_
  cases hc : c ρ S with
  | none => simp only [hc] at h; cases h
  | some q =>
    cases q with
    | ex x S1 =>
      simp only [hc] at h
      exact ⟨1, by unfold WRun; rw [hc]; exact (Option.some.inj h).symm⟩
    | ok d S1 =>
      simp only [hc] at h
      cases ht : truth S1 d with
      | none => simp only [ht] at h; cases h
      | some t =>
        cases t with
        | false =>
          simp only [ht] at h
          exact ⟨1, by unfold WRun; simp only [hc, ht]; exact (Option.some.inj h).symm⟩
        | true =>
          simp only [ht] at h
          cases hb : b ρ S1 with
          | none => simp only [hb] at h; cases h
          | some q =>
            obtain ⟨fl, S2⟩ := q
            cases fl with
            | ret d2 =>
              simp only [hb] at h
              exact ⟨1, by unfold WRun; simp only [hc, ht, hb]; exact (Option.some.inj h).symm⟩
            | ex d2 =>
              simp only [hb] at h
              exact ⟨1, by unfold WRun; simp only [hc, ht, hb]; exact (Option.some.inj h).symm⟩
            | nx ρ2 =>
              simp only [hb] at h
              obtain ⟨n, hn⟩ := ih ρ2 S2 r h
              exact ⟨n + 1, by unfold WRun; simp only [hc, ht, hb]; exact hn⟩
section
variable {X : Cx} {C : Nat → Addr} {W : WX} {n m : Nat} {g : G} {cc : CC} {a b c e : PE} {x y z : Expr} {p p' : Pos} {es : List PE} {xs : List Expr} {body : List PS} {sts : List Stmt}
theorem t_expr (he : L2.PE X x (tEv (tOf X C) W g e)) (hx : noComp x = true) : L2.PS X (.Expr x p) (tEvS (tOf X C) W g (.expr e)) := by
  refine PS.mono (ps_expr he (sw_no hx)) fun D σ H ⟨ρ, S, μ, env, st, h⟩ => ?_
  unfold execS at h
  exact ev1 env st h.bnd fun d S1 v H1 μ1 fp p k => k σ H1 μ1 p.stp p.ok (env.keep st.kinds p.stp)
theorem t_ret (he : L2.PE X x (tEv (tOf X C) W g e)) : L2.PS X (.Return (some x) p) (tEvS (tOf X C) W g (.ret e)) := by
  refine PS.mono (ps_ret he) fun D σ H ⟨ρ, S, μ, env, st, h⟩ => ?_
  unfold execS at h
  exact ev1 env st h.bnd fun d S1 v H1 μ1 fp p k => k v H1 μ1 fp p
theorem t_if {as bs : List PS} {ys zs : List Stmt} (hc : PT X x (tEvT (tOf X C) W g c)) (ha : PSs X ys (tEvB (tOf X C) W g as)) (hb : PSs X zs (tEvB (tOf X C) W g bs)) : L2.PS X (.If x ys zs p) (tEvS (tOf X C) W g (.ife c as bs)) := by
  refine PS.mono (ps_if hc ha hb) fun D σ H ⟨ρ, S, μ, env, st, h⟩ => ?_
  unfold execS at h
  refine evT1 env st h.tests fun t S1 H1 μ1 s ok k => ?_
  cases t with
  | true =>
    rw [if_pos rfl] at k ⊢
    exact ⟨ρ, S1, μ1, env.keep st.kinds s, ok, FFin.on s k⟩
  | false =>
    rw [if_neg (by decide)] at k ⊢
    exact ⟨ρ, S1, μ1, env.keep st.kinds s, ok, FFin.on s k⟩
theorem t_while (hp : PassesOwn (model X.prog X.w) X.A X.env X.xe) (hc : PT X x (tEvT (tOf X C) W g c)) (hb : PSs X sts (tEvB (tOf X C) W g body)) : L2.PS X (.While x sts [] p) (tEvS (tOf X C) W g (.while_ c body)) := by
  refine PS.mono (ps_while hp hc hb) fun D σ H ⟨ρ, S, μ, env, st, h⟩ => ?_
  unfold execS at h
  cases hr : whileL (fun ρ S => evalE g c ρ S) (fun ρ S => execB g body ρ S) ρ S with
  | none => rw [hr] at h; exact h.elim
  | some r =>
    rw [hr] at h
    obtain ⟨m0, w0⟩ := wrun_of ρ S r hr
    refine ⟨fun m σ' H' => ∃ ρ' S' μ', EnvOk (tOf X C) H' μ' σ' ρ' ∧ StOk (tOf X C) H' μ' S' ∧ Stp H μ H' μ' ∧ WRun (fun ρ S => evalE g c ρ S) (fun ρ S => execB g body ρ S) m ρ' S' r, ⟨m0, ρ, S, μ, env, st, Stp.refl, w0⟩, fun m σ1 H1 ⟨ρ1, S1, μ1, env1, st1, s1, w1⟩ => ?_⟩
    cases m with
    | zero => exact w1.elim
    | succ m =>
      unfold WRun at w1
      refine ⟨ρ1, S1, μ1, env1, st1, ?_⟩
      cases hcv : evalE g c ρ1 S1 with
      | none => simp only [hcv] at w1
      | some q =>
        cases q with
        | ex cx S2 =>
          simp only [hcv] at w1
          subst w1
          exact fun H' μ' s' ok' => h σ1 H' μ' (s1.trans s') ok'
        | ok d S2 =>
          simp only [hcv] at w1
          cases ht : truth S2 d with
          | none => simp only [ht] at w1
          | some t =>
            have ev : testE (some (R.ok d S2)) = some (.ok t S2) := by
              show (match truth S2 d with | some b => some (R.ok b S2) | none => none) = _
              rw [ht]
            rw [ev]
            intro H2 μ2 s2 ok2
            have env2 := env1.keep st1.kinds s2
            cases t with
            | false =>
              rw [if_neg (by decide)]
              simp only [ht] at w1
              subst w1
              exact h σ1 H2 μ2 (s1.trans s2) ok2 env2
            | true =>
              rw [if_pos rfl]
              simp only [ht] at w1
              refine ⟨_, fun σ' H' hn => ⟨m, Nat.lt_succ_self m, hn⟩, ρ1, S2, μ2, env2, ok2, ?_⟩
              have s12 := s1.trans s2
              cases hbv : execB g body ρ1 S2 with
              | none => simp only [hbv] at w1
              | some q =>
                obtain ⟨fl, S3⟩ := q
                simp only [hbv] at w1
                cases fl with
                | ret d3 => subst w1; exact fun v H' μ' fp p => h v H' μ' fp ⟨s12.trans p.stp, p.ok, p.rep, p.nd, fun a m => s12.free (p.new a m)⟩
                | ex d3 => subst w1; exact fun σ' H' μ' s' ok' => h σ' H' μ' (s12.trans s') ok'
                | nx ρ3 => exact fun σ' H' μ' s' ok' env' => ⟨ρ3, S3, μ', env', ok', s12.trans s', w1⟩
theorem t_for {tg : Tg} {k : ItK} {tgx iter : Expr} (G : Good C W n g cc X) (hp : PassesOwn (model X.prog X.w) X.A X.env X.xe) (hi : PI X tgx iter (tIt (tOf X C) W g k es)) (ht : chkTg cc tg tgx = true) (hs : noSet iter = true)
    (hb : PSs X sts (tEvB (tOf X C) W g body)) : L2.PS X (.For tgx iter sts [] p) (tEvS (tOf X C) W g (.for_ tg k es body)) := by
  refine PS.mono (ps_for hp G.calm hi (pg_tg G ht) hb (folded hs)) fun D σ H ⟨ρ, S, μ, env, st, h⟩ => ?_
  unfold execS at h
  refine ⟨ρ, S, μ, env, st, h.bnd.imp fun ds S1 _ k1 => ?_⟩
  cases hit : itemsOf S1 k ds with
  | none => rw [hit] at k1; exact k1.elim
  | some q0 =>
    obtain ⟨its, lk⟩ := q0
    rw [hit] at k1
    refine ⟨its, lk, rfl, fun J H1 μ1 s1 ok1 bg => ?_⟩
    obtain ⟨Gw, wk, g0⟩ := bg.fwd
    generalize hf : (fun d ρ S => match setTg tg d ρ S with
        | some (ρ', S) => execB g body ρ' S
        | none => none) = f at k1
    refine ⟨fun i m σ' Hc => i + m = its.length ∧ ∃ ρ' S' μ', EnvOk (tOf X C) Hc μ' σ' ρ' ∧ StOk (tOf X C) Hc μ' S' ∧ Stp H μ Hc μ' ∧ Gw i Hc μ' ∧ FFin (tOf X C) W H μ D (forL lk f (its.drop i) ρ' S'),
      ⟨its.length, by simp, ρ, S1, μ1, env.keep st.kinds s1, ok1, s1, g0, k1⟩, fun i m σ' Hc ⟨him, ρ', S', μ', envc, okc, sc, gc, fc⟩ => ?_⟩
    by_cases hil : its.length ≤ i
    · left
      rw [List.drop_eq_nil_of_le hil] at fc
      obtain ⟨h1, h2⟩ := FFin.guard (show FFin (tOf X C) W H μ D (guardS lk S' (some (.nx ρ', S'))) from fc)
      exact ⟨wk.stop i Hc μ' S' hil gc okc h1, h2 σ' Hc μ' sc okc envc⟩
    · right
      have hil' : i < its.length := by omega
      rw [List.drop_eq_getElem_cons hil'] at fc
      obtain ⟨hst, fc2⟩ := FFin.guard (show FFin (tOf X C) W H μ D (guardS lk S' (seqS (f its[i] ρ' S') fun ρ S => forL lk f (its.drop (i + 1)) ρ S)) from fc)
      obtain ⟨jgo, jit⟩ := wk.item i its[i] Hc μ' S' (List.getElem?_eq_getElem hil') gc okc hst
      refine ⟨jgo, _, fun σ' H' hn => ⟨m - 1, by omega, hn⟩, fun v H' yl => ?_⟩
      obtain ⟨sm, f1, r1, nd1, nw1, g1⟩ := jit v H' yl
      have sca : Stp H μ H' (μ' ++ f1) := Stp.own (own := []) (sc.trans (Same.stp sm)) fun a m => (nw1 a m).1
      cases est : setTg tg its[i] ρ' S' with
      | none => rw [← hf] at fc2; simp only [est] at fc2; exact fc2.elim
      | some q =>
        obtain ⟨ρ2, S2⟩ := q
        have ef : f its[i] ρ' S' = execB g body ρ2 S2 := by rw [← hf]; simp only [est]
        rw [ef] at fc2
        refine setTg_ok (envc.keep okc.kinds (Same.stp sm)) (StOk.same sm okc) r1 nd1 est fun σ2 env2 ok2 _ => ⟨ρ2, S2, μ' ++ f1, env2, ok2, ?_⟩
        cases hbv : execB g body ρ2 S2 with
        | none => rw [hbv] at fc2; exact fc2.elim
        | some q =>
          obtain ⟨fl, S3⟩ := q
          rw [hbv] at fc2
          cases fl with
          | ret d3 => exact fun v H' μ' fp p => fc2 v H' μ' fp ⟨sca.trans p.stp, p.ok, p.rep, p.nd, fun a m => sca.free (p.new a m)⟩
          | ex d3 => exact fun σ' H' μ' s' ok' => fc2 σ' H' μ' (sca.trans s') ok'
          | nx ρ3 => exact fun σ3 H3 μ3 s3 ok3 env3 => ⟨by omega, ρ3, S3, μ3, env3, ok3, sca.trans s3, wk.keep _ _ _ _ _ g1 ok2.kinds s3 ok3.nd, fc2⟩
theorem b_nil : PSs X [] (tEvB (tOf X C) W g []) := by
  refine PSs.mono pss_nil fun D σ H ⟨ρ, S, μ, env, st, h⟩ => ?_
  unfold execB at h
  exact h σ H μ Stp.refl st env
theorem b_skip {st : Stmt} {ss : List PS} (h1 : L2.PS X st tNext) (h : PSs X sts (tEvB (tOf X C) W g ss)) : PSs X (st :: sts) (tEvB (tOf X C) W g ss) :=
  PSs.mono (pss_cons h1 h) fun D σ H h => h
theorem b_cons {s : PS} {st : Stmt} {ss : List PS} (h1 : L2.PS X st (tEvS (tOf X C) W g s)) (h2 : PSs X sts (tEvB (tOf X C) W g ss)) : PSs X (st :: sts) (tEvB (tOf X C) W g (s :: ss)) := by
  refine PSs.mono (pss_cons h1 h2) fun D σ H ⟨ρ, S, μ, env, st, h⟩ => ⟨ρ, S, μ, env, st, ?_⟩
  unfold execB at h
  cases hv : execS g s ρ S with
  | none => rw [hv] at h; exact h.elim
  | some q =>
    obtain ⟨fl, S1⟩ := q
    rw [hv] at h
    cases fl with
    | ret d => exact h
    | ex d => exact h
    | nx ρ1 => exact fun σ1 H1 μ1 s1 ok1 env1 => ⟨ρ1, S1, μ1, env1, ok1, FFin.on s1 h⟩
end
/-! ### does the text say that -/
def chkB (f : PS → Stmt → Bool) : List PS → List Stmt → Bool
  | [], [] => true
  | ss, .Expr (.Constant (.str _) _ _) _ :: r => chkB f ss r
  | ss, .Pass _ :: r => chkB f ss r
  | s :: ss, t :: r => f s t && chkB f ss r
  | _, _ => false
def parA (cc : CC) : List Nat → List Expr → List Expr → Bool
  | [i, j], [.Name x1 px, .Name x2 py], [v1, v2] => decide (cc.N[i]? = some x1) && decide (cc.N[j]? = some x2) && decide (i ≠ j) && isLoc cc x1 && isLoc cc x2 && decide (x1 ≠ x2) && (py.line == px.line) && !([v1, v2].all (foldedForSure 8)) && !([v1, v2].all (constantsAlone 8))
  | _, _, _ => false
def fuelE : Nat := 60
def isLC : Expr → Bool
  | .ListComp _ _ _ _ => true
  | _ => false
def chkLC (cc : CC) (i : Nat) (py : Pos) (nm : Str) : PE → Expr → Bool
  | .comp tg k es ifs elt, .ListComp y [⟨tgx, iter, ifsx, 0⟩] scope _ =>
    chkNm cc i (.Name nm py) && chkI fuelE cc k es tgx iter && noSet iter && chkTg { cc with sc := scope } tg tgx && decide ((ownOf tg tgx).map (·.2) = tgIs tg) && blkC cc.N cc.sc scope (ownOf tg tgx) &&
    (match ifs, ifsx with | [], [] => true | [c], [cx] => chkE fuelE { cc with sc := scope } c cx | _, _ => false) && chkE fuelE { cc with sc := scope } elt y
  | _, _ => false
def chkS : Nat → CC → PS → Stmt → Bool
  | 0, _, _, _ => false
  | _ + 1, cc, .set i e, .Assign [.Name nm py] x _ => if isLC x then chkLC cc i py nm e x else chkNm cc i (.Name nm py) && chkE fuelE cc e x && noComp x
  | _ + 1, cc, .setT is e, .Assign [.Tuple ts kk pt] x _ => chkTg cc (.tp is) (.Tuple ts kk pt) && chkE fuelE cc e x && !isTup x
  | _ + 1, cc, .par is es, .Assign [.Tuple ts kk pt] (.Tuple vs k2 p2) _ => all2 (chkE fuelE cc) es vs && vs.all noStar && decide (vs.length ≤ 1000) && (parA cc is ts vs || (chkTg cc (.tp is) (.Tuple ts kk pt) && vs.all (foldedForSure 8)))
  | _ + 1, cc, .setI o i v, .Assign [.Subscript ox ix _] vx _ => chkE fuelE cc o ox && chkE fuelE cc i ix && chkE fuelE cc v vx && noSlice ix
  | _ + 1, cc, .expr e, .Expr x _ => chkE fuelE cc e x && noComp x
  | _ + 1, cc, .ret e, .Return (some x) _ => chkE fuelE cc e x
  | n + 1, cc, .ife c as bs, .If x ys zs _ => chkE fuelE cc c x && chkB (chkS n cc) as ys && chkB (chkS n cc) bs zs
  | n + 1, cc, .while_ c as, .While x ys [] _ => chkE fuelE cc c x && chkB (chkS n cc) as ys
  | n + 1, cc, .for_ tg k es as, .For tgx iter ys [] _ => chkI fuelE cc k es tgx iter && chkTg cc tg tgx && noSet iter && chkB (chkS n cc) as ys
  | _ + 1, cc, .raise c, .Raise (some (.Call (.Name nm _) [.Constant (.str _) _ _] [] _)) none _ => glob cc.sc nm && decide (cc.cnames[c]? = some nm)
  | _ + 1, cc, .aug i o e, .AugAssign (.Name nm p) op x _ => chkNm cc i (.Name nm p) && decide (op = opOf o) && (decide (o = .add) || decide (o = .sub)) && chkE fuelE cc e x
  | _ + 1, cc, .try_ [.expr e] c i j, .Try [.Expr x _] [.ExceptHandler (some (.Name nx _)) (some nn) [.Assign [.Name ny _] (.Name nm _) _] _] [] [] _ =>
    glob cc.sc nx && decide (cc.cnames[c]? = some nx) && decide (cc.N[i]? = some ny) && isLoc cc ny && decide (cc.N[j]? = some nn) && isLoc cc nn && decide (i ≠ j) && decide (nn ≠ "__debug__") && decide (nn ≠ "__classdict__") && decide (nm = nn) && noComp x && chkE fuelE cc e x
  | _ + 1, cc, .augL i e, .AugAssign (.Name nm p) .Add x _ => chkNm cc i (.Name nm p) && chkE fuelE cc e x
  | _ + 1, cc, .tryS i e c, .Try [.Assign [.Name nm py] x _] [.ExceptHandler (some (.Name nx _)) none (_ :: _) _] [] [] _ => glob cc.sc nx && decide (cc.cnames[c]? = some nx) && chkNm cc i (.Name nm py) && noComp x && chkE fuelE cc e x
  | _, _, _, _ => false
theorem Good.tr {C : Nat → Addr} {W W' : WX} {n : Nat} {g : G} {cc : CC} {X : Cx} {pn : List (Addr × Obj)} {xe : Value → Shared → Prop} (G : Good C W n g cc X) (tk : Takes (X.tr pn xe) W') : Good C W' n g cc (X.tr pn xe) :=
  ⟨G.calm, G.room, tk, G.hN, G.nd, G.sc, G.fn, G.ec, G.funs, G.cls, G.con, G.free⟩
section
variable {X : Cx} {C : Nat → Addr} {W : WX} {n m : Nat} {g : G} {cc : CC}
theorem main_b {f : PS → Stmt → Bool} (hf : ∀ s t, f s t = true → L2.PS X t (tEvS (tOf X C) W g s)) : ∀ (ts : List Stmt) (ss : List PS), chkB f ss ts = true → PSs X ts (tEvB (tOf X C) W g ss)
  | [], ss, h => by
    cases ss with
    | nil => exact b_nil
    | cons s ss => cases h
  | t :: ts, ss, h => by
    unfold chkB at h
    split at h
    · cases ‹_ :: _ = []›
    · obtain ⟨rfl, rfl⟩ := List.cons.inj ‹_ = _ :: _›
      exact b_skip ps_doc (main_b hf ts _ h)
    · obtain ⟨rfl, rfl⟩ := List.cons.inj ‹_ = _ :: _›
      exact b_skip ps_pass (main_b hf ts _ h)
    · obtain ⟨rfl, rfl⟩ := List.cons.inj ‹_ = _ :: _›
      obtain ⟨h1, h2⟩ := Bool.and_eq_true_iff.mp h
      exact b_cons (hf _ _ h1) (main_b hf ts _ h2)
    · cases h
theorem main_s (G : Good C W n g cc X) (O : Own X) (hp : PassesOwn (model X.prog X.w) X.A X.env X.xe) : ∀ (m : Nat) (s : PS) (t : Stmt), chkS m cc s t = true → L2.PS X t (tEvS (tOf X C) W g s)
  | 0, _, _, h => by cases h
  | m + 1, s, t, h => by
    have ih := main_s G O hp m
    have ie : Ih C g fuelE n := main_e C g n fuelE
    unfold chkS at h
    split at h
    all_goals try (have q := Nat.succ.inj ‹m + 1 = _ + 1›; subst q)
    · cases h
    · split at h
      · unfold chkLC at h
        split at h
        · simp only [Bool.and_eq_true, decide_eq_true_eq] at h
          obtain ⟨⟨⟨⟨⟨⟨⟨h0, h1⟩, h2⟩, h3⟩, h4⟩, h5⟩, h6⟩, h7⟩ := h
          refine PS.mono (s_setC G h0 (ie.pi G h1) h2 h3 h4 h5 (fun s H A cl fp => ?_) fun s H A cl fp => (ie _ _ _ (G.blk _ s H A cl fp) _ _ h7).pe) fun D σ H h => set_read h
          split at h6
          · exact ifs_nil
          · exact ifs_one (ie _ _ _ (G.blk _ s H A cl fp) _ _ h6).pt
          · cases h6
        · cases h
      · simp only [Bool.and_eq_true] at h
        obtain ⟨⟨h1, h2⟩, h3⟩ := h
        exact t_set G h1 (ie _ _ _ G _ _ h2).pe h3
    · simp only [Bool.and_eq_true] at h
      obtain ⟨⟨h1, h2⟩, h3⟩ := h
      exact t_setT G h1 (ie _ _ _ G _ _ h2).pe (no_tup (by simpa using h3))
    · simp only [Bool.and_eq_true, decide_eq_true_eq] at h
      obtain ⟨⟨⟨h1, h2⟩, h3⟩, h4⟩ := h
      have pa := ie.pas G h1 h2
      rcases Bool.or_eq_true_iff.mp h4 with h4 | h4
      · unfold parA at h4
        split at h4
        · simp only [Bool.and_eq_true, decide_eq_true_eq, Bool.not_eq_true'] at h4
          obtain ⟨⟨⟨⟨⟨⟨⟨⟨q1, q2⟩, q3⟩, q4⟩, q5⟩, q6⟩, q7⟩, q8⟩, q9⟩ := h4
          exact t_parA G q1 q2 q3 q4 q5 q6 pa h2 q7 q8 q9
        · cases h4
      · obtain ⟨q1, q2⟩ := Bool.and_eq_true_iff.mp h4
        exact t_parB G q1 (s_tup pa h3 (all2_len _ _ h1).symm) q2
    · simp only [Bool.and_eq_true] at h
      obtain ⟨⟨⟨h1, h2⟩, h3⟩, h4⟩ := h
      exact t_setI G (ie _ _ _ G _ _ h1).pe (ie _ _ _ G _ _ h2).pe (ie _ _ _ G _ _ h3).pe h4
    · simp only [Bool.and_eq_true] at h
      exact t_expr (ie _ _ _ G _ _ h.1).pe h.2
    · exact t_ret (ie _ _ _ G _ _ h).pe
    · simp only [Bool.and_eq_true] at h
      obtain ⟨⟨h1, h2⟩, h3⟩ := h
      exact t_if (ie _ _ _ G _ _ h1).pt (main_b ih _ _ h2) (main_b ih _ _ h3)
    · simp only [Bool.and_eq_true] at h
      exact t_while hp (ie _ _ _ G _ _ h.1).pt (main_b ih _ _ h.2)
    · simp only [Bool.and_eq_true] at h
      obtain ⟨⟨⟨h1, h2⟩, h3⟩, h4⟩ := h
      exact t_for G hp (ie.pi G h1) h2 h3 (main_b ih _ _ h4)
    · simp only [Bool.and_eq_true, decide_eq_true_eq] at h
      exact t_raise G h.1 h.2
    · simp only [Bool.and_eq_true, Bool.or_eq_true, decide_eq_true_eq] at h
      obtain ⟨⟨⟨h1, rfl⟩, h3⟩, h4⟩ := h
      exact t_aug G h1 h3 (ie _ _ _ G _ _ h4).pe
    · simp only [Bool.and_eq_true, decide_eq_true_eq] at h
      obtain ⟨⟨⟨⟨⟨⟨⟨⟨⟨⟨⟨h1, h2⟩, h3⟩, h4⟩, h5⟩, h6⟩, h7⟩, h8⟩, h9⟩, rfl⟩, ha⟩, hb⟩ := h
      exact t_try G O h1 h2 h3 h4 h5 h6 h7 h8 h9 ha fun W' pn xe tk => (ie _ _ _ (G.tr tk) _ _ hb).pe
    · simp only [Bool.and_eq_true] at h
      exact t_augL G h.1 (ie _ _ _ G _ _ h.2).pe
    · simp only [Bool.and_eq_true, decide_eq_true_eq] at h
      obtain ⟨⟨⟨⟨h1, h2⟩, h3⟩, h4⟩, h5⟩ := h
      exact t_tryS G O h1 h2 h3 h4 fun W' pn xe tk => ⟨(ie _ _ _ (G.tr tk) _ _ h5).pe, G.tr tk⟩
    · cases h
end
end Ev
end
section
set_option Elab.async false
set_option linter.all false
set_option maxRecDepth 100000
namespace Ev
open PySem PySem.Spec PyProof.Rows L2 PySem.SeqAt
section
variable {T : Pgm} {H : Hp} {μ : List Addr} {S : Sto} {b : Nat}
theorem take_get {n : Nat} {a : Addr} (h : μ[n]? = some a) (hn : n < b) : (μ.take b)[n]? = some a := by
  rw [List.getElem?_take_of_lt hn]; exact h
mutual
theorem pureU : ∀ d : D, d.pure = true → d.under b = true
  | .non, _ => rfl
  | .bl _, _ => rfl
  | .int _, _ => rfl
  | .str _, _ => rfl
  | .tup ds, h => puresU ds h
  | .fz _, h => nomatch h
  | .ref _, h => nomatch h
  | .exc _, h => nomatch h
  | .lst _, h => nomatch h
  | .dct _ _, h => nomatch h
  | .nd _ _, h => nomatch h
theorem puresU : ∀ ds : List D, pures ds = true → unders b ds = true
  | [], _ => rfl
  | d :: ds, h => by
    obtain ⟨s1, s2⟩ := Bool.and_eq_true_iff.mp (show (d.pure && pures ds) = true from h)
    show (d.under b && unders b ds) = true
    rw [pureU d s1, puresU ds s2]; rfl
end
theorem keys_under {ks : List D} (h : ∀ k ∈ ks, tkeyOk k = true) : unders b ks = true := puresU ks (pures_of' fun k m => (tkey (h k m)).1)
mutual
theorem Rep.narrow : ∀ (d : D) (v : V) (fp : List Addr), Rep T H μ d v fp → d.under b = true → Rep T H (μ.take b) d v fp
  | .non, _, _, h, _ => h
  | .bl _, _, _, h, _ => h
  | .int _, _, _, h, _ => h
  | .str _, _, _, h, _ => h
  | .tup ds, _, fp, h, u => by
    obtain ⟨a, vs, e, q, r⟩ := h
    exact ⟨a, vs, e, q, Reps.narrow ds vs fp r (by unfold D.under at u; exact u)⟩
  | .lst ds, _, _, h, u => by
    obtain ⟨a, vs, f, e, q, r, z⟩ := h
    exact ⟨a, vs, f, e, q, Reps.narrow ds vs f r (by unfold D.under at u; exact u), z⟩
  | .fz ds, _, fp, h, u => by
    obtain ⟨a, vs, e, q, r, z⟩ := h
    exact ⟨a, vs, e, q, Reps.narrow ds vs fp r (by unfold D.under at u; exact u), z⟩
  | .dct ks ds, _, _, h, u => by
    obtain ⟨a, us, f, e, q, r, z⟩ := h
    exact ⟨a, us, f, e, q, Reps.narrow ds us f r (by unfold D.under at u; exact (Bool.and_eq_true_iff.mp u).2), z⟩
  | .nd ks ds, _, _, h, u => by
    obtain ⟨a, us, f, e, q, rk, r, z⟩ := h
    exact ⟨a, us, f, e, q, Reps.narrow ks _ _ rk (by unfold D.under at u; exact (Bool.and_eq_true_iff.mp u).1), Reps.narrow ds _ f r (by unfold D.under at u; exact (Bool.and_eq_true_iff.mp u).2), z⟩
  | .ref n, _, _, h, u => by
    obtain ⟨a, e, q, z⟩ := h
    exact ⟨a, e, take_get q (by unfold D.under at u; exact of_decide_eq_true u), z⟩
  | .exc c, _, _, h, _ => by
    obtain ⟨a, e, q, na, z⟩ := h
    exact ⟨a, e, q, ⟨fun m => na.1 (List.mem_of_mem_take m), na.2⟩, z⟩
theorem Reps.narrow : ∀ (ds : List D) (vs : List V) (fp : List Addr), Reps T H μ ds vs fp → unders b ds = true → Reps T H (μ.take b) ds vs fp
  | [], _, _, h, _ => h
  | d :: ds, _, _, h, u => by
    obtain ⟨v, r, f1, f2, e, h1, h2, z⟩ := h
    unfold unders at u
    obtain ⟨u1, u2⟩ := Bool.and_eq_true_iff.mp u
    exact ⟨v, r, f1, f2, e, Rep.narrow d v f1 h1 u1, Reps.narrow ds r f2 h2 u2, z⟩
end
theorem nodup_map_on {α β : Type} {f : α → β} : ∀ {l : List α}, (∀ x ∈ l, ∀ y ∈ l, f x = f y → x = y) → l.Nodup → (l.map f).Nodup
  | [], _, _ => by simp
  | a :: l, h, nd => by
    rw [List.nodup_cons] at nd
    rw [List.map_cons, List.nodup_cons]
    refine ⟨fun m => ?_, nodup_map_on (fun x hx y hy => h x (List.mem_cons_of_mem _ hx) y (List.mem_cons_of_mem _ hy)) nd.2⟩
    obtain ⟨y, hy, e⟩ := List.mem_map.mp m
    have := h a List.mem_cons_self y (List.mem_cons_of_mem _ hy) e.symm
    subst this; exact nd.1 hy
abbrev ad (μ : List Addr) (n : Nat) : Addr := μ.getD n 0
theorem mapM_cons {α β : Type} {f : α → Option β} {x : α} {xs : List α} {ys : List β} (h : (x :: xs).mapM f = some ys) : ∃ y r, f x = some y ∧ xs.mapM f = some r ∧ ys = y :: r := by
  rw [List.mapM_cons] at h
  cases h1 : f x with
  | none => rw [h1] at h; cases h
  | some y =>
    rw [h1] at h
    cases h2 : xs.mapM f with
    | none => rw [h2] at h; cases h
    | some r => rw [h2] at h; cases h; exact ⟨y, r, rfl, rfl, rfl⟩
theorem reifies (S : Sto) (k : Nat) (ih : ∀ d v fp d2, Rep T H μ d v fp → reify S b k d = some d2 → ∃ fp2, Rep T H (μ.take b) d2 v fp2 ∧ fp2.Perm (fp ++ (taken S b k d).map (ad μ)) ∧ ∀ n ∈ taken S b k d, b ≤ n ∧ n < μ.length) :
    ∀ (ds : List D) (vs : List V) (fp : List Addr) (ds2 : List D), Reps T H μ ds vs fp → ds.mapM (reify S b k) = some ds2 → ∃ fp2, Reps T H (μ.take b) ds2 vs fp2 ∧ fp2.Perm (fp ++ (ds.flatMap (taken S b k)).map (ad μ)) ∧ ∀ n ∈ ds.flatMap (taken S b k), b ≤ n ∧ n < μ.length
  | [], vs, fp, ds2, h, e => by
    obtain ⟨rfl, rfl⟩ := h
    have : ds2 = [] := by simpa using e.symm
    subst this
    exact ⟨[], ⟨rfl, rfl⟩, by simp, by simp⟩
  | d :: ds, _, _, ds2, h, e => by
    obtain ⟨v, r, f1, f2, rfl, h1, h2, rfl⟩ := h
    obtain ⟨y, ys, e1, e2, rfl⟩ := mapM_cons e
    obtain ⟨g1, a1, a2, a3⟩ := ih d v f1 y h1 e1
    obtain ⟨g2, b1, b2, b3⟩ := reifies S k ih ds r f2 ys h2 e2
    refine ⟨g1 ++ g2, ⟨v, r, g1, g2, rfl, a1, b1, rfl⟩, ?_, fun n m => ?_⟩
    · rw [List.flatMap_cons, List.map_append]
      refine (a2.append b2).trans ?_
      rw [List.append_assoc, List.append_assoc]
      refine List.Perm.append_left f1 ?_
      rw [← List.append_assoc, ← List.append_assoc]
      exact List.Perm.append_right _ List.perm_append_comm
    · rw [List.flatMap_cons] at m
      exact (List.mem_append.mp m).elim (a3 n) (b3 n)
theorem reify_ok (ok : StOk T H μ S) : ∀ (k : Nat) (d : D) (v : V) (fp : List Addr) (d2 : D), Rep T H μ d v fp → reify S b k d = some d2 → ∃ fp2, Rep T H (μ.take b) d2 v fp2 ∧ fp2.Perm (fp ++ (taken S b k d).map (ad μ)) ∧ ∀ n ∈ taken S b k d, b ≤ n ∧ n < μ.length
  | 0, d, v, fp, d2, h, e => by cases e
  | k + 1, d, v, fp, d2, h, e => by
    have ihs := reifies (H := H) (μ := μ) (T := T) (b := b) S k fun d v fp d2 => reify_ok ok k d v fp d2
    unfold reify at e
    unfold taken
    by_cases hu : d.under b = true
    · rw [if_pos hu] at e
      cases e
      rw [if_pos hu]
      exact ⟨fp, Rep.narrow d v fp h hu, by simp, by simp⟩
    rw [if_neg hu] at e
    rw [if_neg hu]
    cases d with
    | tup ds =>
      obtain ⟨ds2, e1, rfl⟩ := Option.map_eq_some_iff.mp (show (ds.mapM (reify S b k)).map D.tup = some d2 from e)
      obtain ⟨a, vs, ev, q, r⟩ := h
      obtain ⟨fp2, r2, p2, n2⟩ := ihs ds vs fp ds2 r e1
      exact ⟨fp2, ⟨a, vs, ev, q, r2⟩, p2, n2⟩
    | lst ds =>
      obtain ⟨ds2, e1, rfl⟩ := Option.map_eq_some_iff.mp (show (ds.mapM (reify S b k)).map D.lst = some d2 from e)
      obtain ⟨a, vs, f, ev, q, r, rfl⟩ := h
      obtain ⟨fp2, r2, p2, n2⟩ := ihs ds vs f ds2 r e1
      refine ⟨fp2 ++ [a], ⟨a, vs, fp2, ev, q, r2, rfl⟩, ?_, n2⟩
      refine (p2.append_right [a]).trans ?_
      rw [List.append_assoc, List.append_assoc]
      exact List.Perm.append_left f List.perm_append_comm
    | dct ks ds =>
      obtain ⟨ds2, e1, rfl⟩ := Option.map_eq_some_iff.mp (show (ds.mapM (reify S b k)).map (D.dct ks) = some d2 from e)
      obtain ⟨a, us, f, ev, q, r, rfl⟩ := h
      obtain ⟨fp2, r2, p2, n2⟩ := ihs ds us f ds2 r e1
      refine ⟨fp2 ++ [a], ⟨a, us, fp2, ev, q, r2, rfl⟩, ?_, n2⟩
      refine (p2.append_right [a]).trans ?_
      rw [List.append_assoc, List.append_assoc]
      exact List.Perm.append_left f List.perm_append_comm
    | nd ks ds =>
      obtain ⟨ds2, e1, rfl⟩ := Option.map_eq_some_iff.mp (show (ds.mapM (reify S b k)).map (D.nd ks) = some d2 from e)
      obtain ⟨a, us, f, ev, q, rk, r, rfl⟩ := h
      obtain ⟨fp2, r2, p2, n2⟩ := ihs ds _ f ds2 r e1
      refine ⟨fp2 ++ [a], ⟨a, us, fp2, ev, q, Reps.narrow _ _ _ rk (keys_under q.2.2), r2, rfl⟩, ?_, n2⟩
      refine (p2.append_right [a]).trans ?_
      rw [List.append_assoc, List.append_assoc]
      exact List.Perm.append_left f List.perm_append_comm
    | ref n =>
      obtain ⟨a, ev, hm, rfl⟩ := h
      have hn : b ≤ n ∧ n < μ.length := by
        unfold D.under at hu
        have := (List.getElem?_eq_some_iff.mp hm).1
        simp only [decide_eq_true_eq] at hu
        omega
      have ha : ad μ n = a := by
        show μ.getD n 0 = a
        rw [List.getD_eq_getElem?_getD, hm]; rfl
      cases hS : S[n]? with
      | none => simp only [hS] at e; cases e
      | some o =>
        have ob := ok.at_ n o a hS hm
        cases o with
        | lst ds =>
          simp only [hS] at e ⊢
          obtain ⟨ds2, e1, rfl⟩ := Option.map_eq_some_iff.mp e
          obtain ⟨vs, q, r⟩ := ob
          obtain ⟨fp2, r2, p2, n2⟩ := ihs ds vs [] ds2 r e1
          refine ⟨fp2 ++ [a], ⟨a, vs, fp2, ev, q, r2, rfl⟩, ?_, fun m mm => ?_⟩
          · simp only [List.map_append, List.nil_append]
            refine (p2.append_right [a]).trans ?_
            rw [List.nil_append]
            show List.Perm _ (List.map (ad μ) (ds.flatMap (taken S b k)) ++ [ad μ n])
            rw [ha]
          · rcases List.mem_append.mp mm with mm | mm
            · exact n2 m mm
            · have : m = n := by simpa using mm
              subst this; exact hn
        | dct ks ds =>
          simp only [hS] at e ⊢
          obtain ⟨ds2, e1, rfl⟩ := Option.map_eq_some_iff.mp e
          obtain ⟨us, q, r⟩ := ob
          obtain ⟨fp2, r2, p2, n2⟩ := ihs ds us [] ds2 r e1
          refine ⟨fp2 ++ [a], ⟨a, us, fp2, ev, q, r2, rfl⟩, ?_, fun m mm => ?_⟩
          · simp only [List.map_append, List.nil_append]
            refine (p2.append_right [a]).trans ?_
            rw [List.nil_append]
            show List.Perm _ (List.map (ad μ) (ds.flatMap (taken S b k)) ++ [ad μ n])
            rw [ha]
          · rcases List.mem_append.mp mm with mm | mm
            · exact n2 m mm
            · have : m = n := by simpa using mm
              subst this; exact hn
        | nd ks ds =>
          simp only [hS] at e ⊢
          obtain ⟨ds2, e1, rfl⟩ := Option.map_eq_some_iff.mp e
          obtain ⟨us, q, rk, r⟩ := ob
          obtain ⟨fp2, r2, p2, n2⟩ := ihs ds _ [] ds2 r e1
          refine ⟨fp2 ++ [a], ⟨a, us, fp2, ev, q, Reps.narrow _ _ _ rk (keys_under q.2.2), r2, rfl⟩, ?_, fun m mm => ?_⟩
          · simp only [List.map_append, List.nil_append]
            refine (p2.append_right [a]).trans ?_
            rw [List.nil_append]
            show List.Perm _ (List.map (ad μ) (ds.flatMap (taken S b k)) ++ [ad μ n])
            rw [ha]
          · rcases List.mem_append.mp mm with mm | mm
            · exact n2 m mm
            · have : m = n := by simpa using mm
              subst this; exact hn
        | _ => simp only [hS] at e; cases e
    | _ => cases e
theorem unders_get : ∀ (ds : List D) (i : Nat) (d : D), unders b ds = true → ds[i]? = some d → d.under b = true
  | [], i, d, _, h => by simp at h
  | x :: ds, i, d, u, h => by
    unfold unders at u
    obtain ⟨u1, u2⟩ := Bool.and_eq_true_iff.mp u
    cases i with
    | zero => simp at h; subst h; exact u1
    | succ j => exact unders_get ds j d u2 (by simpa using h)
theorem StOk.cut (ok : StOk T H μ S) (hc : closed b S = true) : StOk T H (μ.take b) (S.take b) := by
  refine ⟨by simp [ok.len], ok.nd.sublist (List.take_sublist _ _), fun n d a h1 h2 => ?_⟩
  have hn : n < b := by
    have := (List.getElem?_eq_some_iff.mp h1).1
    rw [List.length_take] at this; omega
  have u := unders_get _ n d hc h1
  rw [List.getElem?_take_of_lt hn] at h1 h2
  have q := ok.at_ n d a h1 h2
  cases d with
  | lst ds => obtain ⟨vs, e, r⟩ := q; exact ⟨vs, e, Reps.narrow _ _ _ r (by unfold D.under at u; exact u)⟩
  | dct ks ds => obtain ⟨us, e, r⟩ := q; exact ⟨us, e, Reps.narrow _ _ _ r (by unfold D.under at u; exact (Bool.and_eq_true_iff.mp u).2)⟩
  | nd ks ds => obtain ⟨us, e, rk, r⟩ := q; exact ⟨us, e, Reps.narrow _ _ _ rk (keys_under e.2.2), Reps.narrow _ _ _ r (by unfold D.under at u; exact (Bool.and_eq_true_iff.mp u).2)⟩
  | _ => exact q.elim
end
section
variable {T : Pgm} {H H' : Hp} {μ μ' fp : List Addr} {S S' : Sto}
theorem StpO.wide (s : Stp H (μ ++ fp) H' μ') : StpO fp H μ H' μ' := by
  obtain ⟨e, he, f⟩ := s.ext
  exact ⟨⟨fp ++ e, by rw [he, List.append_assoc], fun a m => (List.mem_append.mp m).elim .inl fun m => .inr (f a m)⟩, fun b o h n1 n2 => s.fr b o h fun m => (List.mem_append.mp m).elim n1 n2, s.dom⟩
theorem StpO.back (s : Stp H (μ ++ fp) H' μ') : StpO fp H μ H' (μ'.take μ.length) := by
  obtain ⟨e, he, f⟩ := s.ext
  have : μ'.take μ.length = μ := by rw [he, List.append_assoc, List.take_left]
  rw [this]
  exact ⟨⟨[], by simp, by simp⟩, fun b o h n1 n2 => s.fr b o h fun m => (List.mem_append.mp m).elim n1 n2, s.dom⟩
theorem leave_ok {d d2 : D} {v : V} {f : List Addr} {S2 : Sto} (hl : S.length = μ.length) (p : Pst T H (μ ++ fp) d S' v H' μ' f) (e : leave S.length d S' = some (.ok d2 S2)) {Q : VK} (q : OutM T H μ fp S2 d2 Q) : Q v H' := by
  unfold leave at e
  by_cases hc : closed S.length S' = true
  · rw [if_pos hc] at e
    cases hr : reify S' S.length 9 d with
    | none => rw [hr] at e; cases e
    | some dr =>
      simp only [hr] at e
      by_cases hn : (taken S' S.length 9 d).Nodup
      case neg => rw [if_neg hn] at e; cases e
      rw [if_pos hn] at e
      cases e
      obtain ⟨fp2, r2, p2, n2⟩ := reify_ok p.ok 9 d v f d2 p.rep hr
      rw [hl] at r2 n2 hc hn p2 q
      have sb := StpO.back p.stp
      have inj : ∀ n ∈ taken S' μ.length 9 d, ∃ h : n < μ'.length, ad μ' n = μ'[n] := fun n m => ⟨(n2 n m).2, by
        show μ'.getD n 0 = _
        rw [List.getD_eq_getElem?_getD, List.getElem?_eq_getElem (n2 n m).2]; rfl⟩
      have ndt : ((taken S' μ.length 9 d).map (ad μ')).Nodup := by
        refine nodup_map_on ?_ hn
        intro x hx y hy exy
        obtain ⟨lx, ex⟩ := inj x hx
        obtain ⟨ly, ey⟩ := inj y hy
        rw [ex, ey] at exy
        exact (List.getElem_inj p.ok.nd).mp exy
      obtain ⟨m1, m2, m3⟩ := List.nodup_append.mp p.nd
      have ndf : (f ++ (taken S' μ.length 9 d).map (ad μ')).Nodup := by
        refine List.nodup_append.mpr ⟨m2, ndt, fun x hx y hy exy => ?_⟩
        subst exy
        obtain ⟨n, hn', en⟩ := List.mem_map.mp hy
        obtain ⟨ln, e1⟩ := inj n hn'
        exact m3 x (by rw [← en, e1]; exact List.getElem_mem ln) x hx rfl
      refine q v H' _ fp2 sb (p.ok.cut hc) r2 ?_ fun a m => ?_
      · refine List.nodup_append.mpr ⟨p.ok.nd.sublist (List.take_sublist _ _), (p2.nodup_iff).mpr ndf, fun x hx y hy exy => ?_⟩
        subst exy
        rcases List.mem_append.mp (p2.mem_iff.mp hy) with hy | hy
        · exact m3 x (List.mem_of_mem_take hx) x hy rfl
        · obtain ⟨n, hn', en⟩ := List.mem_map.mp hy
          obtain ⟨ln, e1⟩ := inj n hn'
          obtain ⟨i, hi, ei⟩ := List.mem_iff_getElem.mp hx
          rw [List.length_take] at hi
          rw [List.getElem_take] at ei
          have : i = n := (List.getElem_inj p.ok.nd).mp (by rw [ei, ← en, e1])
          have := (n2 n hn').1
          omega
      · rcases List.mem_append.mp (p2.mem_iff.mp m) with m | m
        · exact .inr (p.new a m)
        · obtain ⟨n, hn', en⟩ := List.mem_map.mp m
          obtain ⟨ln, e1⟩ := inj n hn'
          obtain ⟨e, he, fr⟩ := p.stp.ext
          have hge := (n2 n hn').1
          have ha : a = μ'[n] := by rw [← en, e1]
          have hmem : a ∈ μ'.drop μ.length := by
            rw [ha]
            refine List.mem_iff_getElem.mpr ⟨n - μ.length, by rw [List.length_drop]; omega, ?_⟩
            rw [List.getElem_drop]
            congr 1; omega
          rw [he, List.append_assoc, List.drop_left] at hmem
          rcases List.mem_append.mp hmem with m | m
          · exact .inl m
          · exact .inr (fr a m)
  · rw [if_neg hc] at e
    cases e
    exact q v H' μ' f (StpO.wide p.stp) p.ok p.rep p.nd fun a m => .inr (p.new a m)
theorem leaveX_ok {c : Nat} {E : XK} (hl : S.length = μ.length) (s : Stp H (μ ++ fp) H' μ') (ok : StOk T H' μ' S') (q : ∀ H' μ', StpO fp H μ H' μ' → StOk T H' μ' (if closed S.length S' = true then S'.take S.length else S') → E (.ref (T.C c)) none H') : E (.ref (T.C c)) none H' := by
  by_cases hc : closed S.length S' = true
  · rw [if_pos hc] at q
    rw [hl] at q hc
    exact q H' _ (StpO.back s) (ok.cut hc)
  · rw [if_neg hc] at q
    exact q H' μ' (StpO.wide s) ok
end
end Ev
end
section
set_option Elab.async false
set_option linter.all false
set_option maxRecDepth 100000
namespace Ev
open PySem PySem.Spec PyProof.Rows L2 PySem.SeqAt
structure Row where
  fn : Fn
  nm : Str
  N : List Str
  params : Arguments
  body : List Stmt
  scope : Scope
def Row.ps (r : Row) : List Str := r.N.take r.fn.np
structure Txt0 where
  rows : List Row
  cnames : List Str
  consts : List (Str × D)
def Txt0.cc (t : Txt0) (r : Row) : CC := ⟨r.N, t.rows.map (·.nm), t.cnames, t.consts, r.scope⟩
def Txt0.fns (t : Txt0) : List Fn := t.rows.map (·.fn)
def chkSc (r : Row) : Bool := (match r.scope.kind with | .function => true | _ => false) && !r.scope.isCoroutine && !r.scope.isGenerator && decide r.N.Nodup && decide (r.fn.np ≤ r.N.length) && decide (r.fn.ns = r.N.length) && r.ps.all (loc r.scope) && r.scope.names.all (fun y => match y.2 with | .free => false | _ => true)
def chkRow (t : Txt0) (r : Row) : Bool := chkSc r && chkB (chkS 40 (t.cc r)) r.fn.body r.body
theorem ps_len {r : Row} (h : r.fn.np ≤ r.N.length) : r.ps.length = r.fn.np := by
  unfold Row.ps; rw [List.length_take]; omega
theorem scope_ok {r : Row} (h : chkSc r = true) : FnScope r.N r.ps r.scope ∧ r.fn.np ≤ r.N.length ∧ r.fn.ns = r.N.length := by
  unfold chkSc at h
  simp only [Bool.and_eq_true, decide_eq_true_eq, Bool.not_eq_true', List.all_eq_true] at h
  obtain ⟨⟨⟨⟨⟨⟨⟨h1, h2⟩, h3⟩, h4⟩, h5⟩, h6⟩, h7⟩, h8⟩ := h
  refine ⟨⟨?_, h2, h3, h4, ?_, fun x hx => loc_ok (h7 x hx), fun y hy e => ?_⟩, h5, h6⟩
  · split at h1
    · assumption
    · cases h1
  · rw [ps_len h5]; rfl
  · have := h8 y hy
    rw [e] at this; cases this
/-- what stands behind the top -/
structure Stands (P : Program) (w : World) (K : PySem.W.Frag) (mg : Str → Option Value) (C : Nat → Addr) (isa : Nat → Ty → Bool) (t : Txt0) : Prop where
  ec : ExcK K C isa
  cls : ∀ (c : Nat) (x : Str), t.cnames[c]? = some x → mg x = some (.ref (C c)) ∧ ∀ c', C c' ≠ 0
  con : ∀ (x : Str) (d : D), t.consts.lookup x = some d → ∃ u v, mg x = some u ∧ RelV v u ∧ scalV d v
  free : ∀ x ∈ bltNames, mg x = none
  funs : ∀ (f : Nat) (r : Row), t.rows[f]? = some r → ∃ addr fd, mg r.nm = some (.ref addr) ∧ FunD K r.nm r.nm r.params r.body r.scope [] [] addr fd ∧ Binds K fd r.ps []
theorem env_start {T : Pgm} {H : Hp} {μ : List Addr} {N : List Str} {vs : List V} {ds : List D} {ns : Nat} (hn : ns = N.length) (r : Reps T H μ ds vs []) : EnvOk T H μ (L2.start N vs) (startE ns ds) := by
  have hl := Reps.len _ _ _ r
  refine ⟨by unfold L2.start startE; simp [hl, hn], fun i d e => ?_⟩
  unfold startE at e
  unfold L2.start
  by_cases hi : i < ds.length
  · rw [List.getElem?_append_left (by simpa using hi), List.getElem?_map] at e
    obtain ⟨x, e1, e2⟩ := Option.map_eq_some_iff.mp e
    cases e2
    obtain ⟨v, f, h1, h2, h3⟩ := Reps.get _ _ _ _ _ r e1
    have hf : f = [] := List.sublist_nil.mp h3
    subst hf
    refine ⟨v, ?_, h2⟩
    rw [List.getElem?_append_left (by rw [List.length_map, hl]; exact hi), List.getElem?_map, h1]; rfl
  · rw [List.getElem?_append_right (by simpa using hi)] at e
    rw [List.getElem?_replicate] at e
    split at e
    · cases e
    · cases e
theorem fns_ok {P : Program} {w : World} {K : PySem.W.Frag} {mg : Str → Option Value} {base : Heap} {C : Nat → Addr} {isa : Nat → Ty → Bool} {t : Txt0} (St : Stands P w K mg C isa t) (hchk : ∀ r ∈ t.rows, chkRow t r = true) :
    ∀ (n f : Nat) (r : Row), t.rows[f]? = some r → ∀ addr fd, FunD K r.nm r.nm r.params r.body r.scope [] [] addr fd → FnOk P w K mg base (L2.CX P w) n addr fd r.ps (spF ⟨K, w, C⟩ (callN t.fns isa n f))
  | 0, f, r, hr, addr, fd, F => by
    have no : ∀ vs H Q E, spF ⟨K, w, C⟩ (callN t.fns isa 0 f) vs H Q E → False := fun vs H Q E ⟨ds, S, μ, fp, _, _, _, h⟩ => h
    exact ⟨fun vs H Q E h => (no vs H Q E h).elim, fun A outer s H args us vs Q E _ _ _ _ h => (no vs H Q E h).elim⟩
  | n + 1, f, r, hr, addr, fd, F => by
    have ih := fns_ok (base := base) St hchk n
    have hc := hchk r (List.mem_of_getElem? hr)
    unfold chkRow at hc
    obtain ⟨hc1, hc2⟩ := Bool.and_eq_true_iff.mp hc
    obtain ⟨sc, hnp, hns⟩ := scope_ok hc1
    have hfn : t.fns[f]? = some r.fn := by unfold Txt0.fns; rw [List.getElem?_map, hr]; rfl
    refine F.ok sc (fun vs H Q E ⟨ds, S, μ, fp, rs, ok, nd, h⟩ => ?_) fun cdv A outer s H vs Q E hroom ⟨ds, S, μ, fp, rs, ok, nd, h⟩ => ?_
    · rw [ps_len hnp, Reps.len _ _ _ rs]
      unfold callN at h
      rw [hfn] at h
      by_cases hl : ds.length = r.fn.np
      · exact hl
      · simp only [if_neg hl] at h
    · have G : Good C (fun c d _ H => E c d H) n ⟨callN t.fns isa n, isa⟩ (t.cc r) (cxOf (L2.CX P w) P w K mg base r.N r.nm r.scope addr cdv A outer s H E) := by
        refine ⟨rfl, hroom, takes_of rfl rfl rfl rfl, rfl, sc.nd, ScOk.refl _, fun _ _ => .inl rfl, St.ec, fun f' x hx => ?_, St.cls, St.con, St.free⟩
        have hx' : (t.rows.map (·.nm))[f']? = some x := hx
        rw [List.getElem?_map] at hx'
        obtain ⟨r', e1, e2⟩ := Option.map_eq_some_iff.mp hx'
        obtain ⟨addr', fd', q1, q2, q3⟩ := St.funs f' r' e1
        subst e2
        exact ⟨addr', fd', r'.ps, q1, q2.kp, q3, ih f' r' e1 addr' fd' q2⟩
      have hp := passes_of (X := cxOf (L2.CX P w) P w K mg base r.N r.nm r.scope addr cdv A outer s H E) rfl
      refine ⟨_, main_b (main_s G ⟨rfl, rfl, rfl⟩ hp 40) _ _ hc2, ?_⟩
      unfold callN at h
      rw [hfn] at h
      by_cases hl : ds.length = r.fn.np
      case neg => simp only [if_neg hl] at h
      simp only [if_pos hl] at h
      obtain ⟨r1, ok1⟩ := settles_ok ds vs fp μ S rs ok nd
      refine ⟨startE r.fn.ns (settles ds S).1, (settles ds S).2, μ ++ fp, env_start hns r1, ok1, ?_⟩
      cases hv : execB ⟨callN t.fns isa n, isa⟩ r.fn.body (startE r.fn.ns (settles ds S).1) (settles ds S).2 with
      | none => rw [hv] at h; exact h.elim
      | some q =>
        obtain ⟨fl, S'⟩ := q
        rw [hv] at h
        cases fl with
        | nx ρ' =>
          intro σ' H' μ' s' ok' _
          cases hlv : leave S.length .non S' with
          | none => simp only [hlv] at h
          | some q =>
            simp only [hlv] at h
            cases q with
            | ok d2 S2 => exact leave_ok ok.len (Pst.flat (d := .non) (v := .non) s' ok' ⟨rfl, rfl⟩) hlv h
            | ex c S2 =>
              exfalso
              unfold leave at hlv
              split at hlv
              · split at hlv
                · split at hlv <;> cases hlv
                · cases hlv
              · cases hlv
        | ret d =>
          intro v H' μ' f' p
          cases hlv : leave S.length d S' with
          | none => simp only [hlv] at h
          | some q =>
            simp only [hlv] at h
            cases q with
            | ok d2 S2 => exact leave_ok ok.len p hlv h
            | ex c S2 =>
              exfalso
              unfold leave at hlv
              split at hlv
              · split at hlv
                · split at hlv <;> cases hlv
                · cases hlv
              · cases hlv
        | ex c =>
          intro σ' H' μ' s' ok'
          simp only [leaveX] at h
          exact leaveX_ok (T := ⟨K, w, C⟩) ok.len s' ok' h
/-- the law's def is handed the script -/
theorem law_sp {K : PySem.W.Frag} {w : World} {C : Nat → Addr} {fns : List Fn} {isa : Nat → Ty → Bool} {n f : Nat} {H : Hp} {a : Addr} {ns : List Int} (hO : Only H) (hS : SqL K H a (ns.map V.int))
    (h : ∃ S', callN fns isa n f [.fz (ns.map .int)] [] = some (.ok (.bl true) S')) : spF ⟨K, w, C⟩ (callN fns isa n f) [.ref a] H (fun v _ => v = .bl true) fun _ _ _ => False := by
  obtain ⟨S', h⟩ := h
  have rs : ∀ ns : List Int, Reps ⟨K, w, C⟩ H [] (ns.map .int) (ns.map V.int) [] := fun ns => by
    induction ns with
    | nil => exact ⟨rfl, rfl⟩
    | cons i ns ih => exact ⟨.int i, ns.map V.int, [], [], rfl, ⟨rfl, rfl⟩, ih, rfl⟩
  have fz : FzAt K H a (ns.map V.int) := by
    rcases hS with (h | h) | h
    · rcases hO a with e | ⟨_, _, e⟩ <;> (rw [h] at e; cases e)
    · exact .inl h
    · exact .inr h
  refine ⟨[.fz (ns.map .int)], [], [], [], ⟨.ref a, [], [], [], rfl, ⟨a, _, rfl, fz, rs ns, rfl⟩, ⟨rfl, rfl⟩, rfl⟩, ⟨rfl, List.nodup_nil, fun n d a h => by simp at h⟩, List.nodup_nil, ?_⟩
  rw [h]
  exact fun v H' μ' fp _ _ r _ _ => r.1
/-- where nothing is let out -/
theorem fn_noX {P : Program} {w : World} {K : PySem.W.Frag} {mg : Str → Option Value} {base : Heap} {k : Nat} {f : Addr} {fd : FuncData} {ps : List Str} {sp : Sp} (F : FnOk P w K mg base (L2.CX P w) k f fd ps sp) :
    FnOk P w K mg base CX0 k f fd ps (fun vs H Q _ => sp vs H Q fun _ _ _ => False) := by
  refine ⟨fun vs H Q E h => F.len _ _ _ _ h, fun A outer s H args us vs Q E hr e0 hb hv hs => codeAny_mono (F.run A outer s H args us vs Q _ hr e0 hb hv hs) fun r s' h => ?_⟩
  cases r with
  | ok v =>
    cases v <;> exact h
  | error e =>
    obtain ⟨_, _, _, _, _, _, _, _, _, _, _, _, z⟩ := h
    exact z.elim
end Ev
end
section
set_option Elab.async false
set_option linter.all false
set_option maxRecDepth 100000
namespace Ev
open PySem PySem.Spec PyProof.Rows L2
/-! ### the exception classes behind the top: the first is the base of all others -/
def cAd (K : PySem.W.Frag) (cn : List Str) (c : Nat) : Addr := He.ga K (cn.getD (cIx cn.length c) "")
def excOne (K : PySem.W.Frag) (D : Addr) : Bool := He.eqO (PySem.W.findIn K (.ref D) "__getattribute__") (some (some (.builtin "BaseException.__getattribute__"))) && He.eqO (PySem.W.findIn K (.ref D) "__getattr__") (some none) &&
  decide (PySem.W.subIn K (.ref D) (.type "BaseException") = some true) && PySem.W.hasDictIn K D && He.eqO (PySem.W.findIn K (.ref D) "__class__") (some (some (.builtin "object.__class__"))) &&
  He.eqO (PySem.W.specialIn K (.builtin "object.__class__") "__get__") (some (some (.builtin "getset_descriptor.__get__"))) && decide (PySem.W.takesIn K (.builtin "object.__class__") = some true) && decide (PySem.W.mroIn K D (.type "object") = some true) &&
  PySem.W.excIn K D [.type "ValueError", .type "Exception", .type "BaseException", .type "object"] "ValueError.__new__" && PySem.W.keepIn K (.ref D) && decide (PySem.W.typeIn K (.ref D) = some (.type "type")) &&
  decide (D ≠ 0) && decide (PySem.W.kitOne K (.ref D) (.type "ValueError") = some true)
def excB (K : PySem.W.Frag) (cn : List Str) : Bool := (List.range cn.length).all fun c => excOne K (cAd K cn c) && (List.range cn.length).all fun c' =>
  decide (PySem.W.kitOne K (.ref (cAd K cn c)) (.ref (cAd K cn c')) = some (isaX cn.length c (.cls c'))) && decide (PySem.W.exmOne K (.ref (cAd K cn c)) (.ref (cAd K cn c')) = some (isaX cn.length c (.cls c')))
theorem cIx_lt {k : Nat} (h : 0 < k) (c : Nat) : cIx k c < k := by unfold cIx; split <;> omega
theorem cIx_id {k c : Nat} : cIx k (cIx k c) = cIx k c := by unfold cIx; split <;> simp_all
theorem cAd_ix {K : PySem.W.Frag} {cn : List Str} {c : Nat} : cAd K cn (cIx cn.length c) = cAd K cn c := by unfold cAd; rw [cIx_id]
theorem isa_ix {k c c' : Nat} : isaX k (cIx k c) (.cls (cIx k c')) = isaX k c (.cls c') := by unfold isaX; simp only [cIx_id]
theorem excK_of {K : PySem.W.Frag} {cn : List Str} (hl : 0 < cn.length) (h : excB K cn = true) : ExcK K (cAd K cn) (isaX cn.length) ∧ ∀ c, cAd K cn c ≠ 0 := by
  have one : ∀ c, excOne K (cAd K cn c) = true := fun c => by
    have := List.all_eq_true.mp h (cIx cn.length c) (List.mem_range.mpr (cIx_lt hl c))
    have := (Bool.and_eq_true_iff.mp this).1
    rwa [cAd_ix] at this
  have two : ∀ c c', PySem.W.kitOne K (.ref (cAd K cn c)) (.ref (cAd K cn c')) = some (isaX cn.length c (.cls c')) ∧ PySem.W.exmOne K (.ref (cAd K cn c)) (.ref (cAd K cn c')) = some (isaX cn.length c (.cls c')) := fun c c' => by
    have h1 := List.all_eq_true.mp h (cIx cn.length c) (List.mem_range.mpr (cIx_lt hl c))
    have h2 := List.all_eq_true.mp (Bool.and_eq_true_iff.mp h1).2 (cIx cn.length c') (List.mem_range.mpr (cIx_lt hl c'))
    simp only [Bool.and_eq_true, decide_eq_true_eq, cAd_ix, isa_ix] at h2
    exact h2
  have all : ∀ c, _ := fun c => one c
  simp only [excOne, Bool.and_eq_true, decide_eq_true_eq] at all
  refine ⟨⟨fun c _ => ?_, fun c c' _ => (two c c').1, fun c _ => (all c).2, fun c _ => ?_, fun c c' _ => (two c c').2⟩, fun c => (all c).1.2⟩
  · obtain ⟨⟨⟨⟨⟨⟨⟨⟨⟨⟨⟨⟨a1, a2⟩, a3⟩, a4⟩, a5⟩, a6⟩, a7⟩, a8⟩, a9⟩, a10⟩, a11⟩, a12⟩, a13⟩ := all c
    exact ⟨He.eqO_ok a1, He.eqO_ok a2, a3, a4, He.eqO_ok a5, He.eqO_ok a6, a7, a8⟩
  · obtain ⟨⟨⟨⟨⟨⟨⟨⟨⟨⟨⟨⟨a1, a2⟩, a3⟩, a4⟩, a5⟩, a6⟩, a7⟩, a8⟩, a9⟩, a10⟩, a11⟩, a12⟩, a13⟩ := all c
    exact ⟨a9, a10, a3, a11⟩
/-- the library's look at the top, with the classes -/
def hookX (n : Nat) (fa : List He.Fa) (fn : List He.DefD) (cn : List Str) : PySem.W.Hook where
  α := He.AlD × Bool
  obs := fun s => (He.obsDG n fa fn s.heap.get?, excB (He.frG s.heap.get? (He.asD s.heap.get? n)) cn)
  val := fun _ => (He.valD fn, true)
  says := fun _ h => ∃ K : PySem.W.Frag, K.In h ∧ He.SaysD fa fn K ∧ excB K cn = true
  of := fun _ _ e => ⟨_, He.frG_in, (Prod.mk.inj e).1, (Prod.mk.inj e).2⟩
  keeps := fun _ _ _ ⟨K, hK, c⟩ k => ⟨K, PySem.W.Frag.In.keeps hK k, c⟩
def obsX (n : Nat) (fa : List He.Fa) (fn : List He.DefD) (cn : List Str) (g : Addr → Option Obj) : He.AlD × Bool := (He.obsDG n fa fn g, excB (He.frG g (He.asD g n)) cn)
theorem obsX_eq {n : Nat} {fa : List He.Fa} {fn : List He.DefD} {cn : List Str} {g : Addr → Option Obj} {s : Shared} (h : ∀ a, g a = s.heap.get? a) : obsX n fa fn cn g = (hookX n fa fn cn).obs s := by
  have e : g = s.heap.get? := funext h
  rw [e] <;> rfl
end Ev
end
section
set_option Elab.async false
set_option linter.all false
set_option maxRecDepth 100000
namespace Pg
open PySem Ev
def b_divisor_of : List PS := [.set 2 (.blt .abs [(.var 0)]),
  .set 3 (.blt .abs [(.var 1)]),
  .while_ (.cmp .ne (.var 3) (.cst (.int 0))) [.par [2, 3] [(.var 3), (.bin .mod (.var 2) (.var 3))]],
  .ret (.var 2)]
def n_divisor_of : List Str := ["one", "other", "here", "there"]
def b_reduced : List PS := [.set 2 (.call 0 [(.var 0), (.var 1)]),
  .ret (.tup [(.bin .fdiv (.var 0) (.var 2)), (.bin .fdiv (.var 1) (.var 2))])]
def n_reduced : List Str := ["top", "bottom", "share"]
def b_sum_of_two : List PS := [.ret (.call 1 [(.bin .add (.bin .mul (.idx (.var 0) (.cst (.int 0))) (.idx (.var 1) (.cst (.int 1)))) (.bin .mul (.idx (.var 1) (.cst (.int 0))) (.idx (.var 0) (.cst (.int 1))))), (.bin .mul (.idx (.var 0) (.cst (.int 1))) (.idx (.var 1) (.cst (.int 1))))])]
def n_sum_of_two : List Str := ["one", "other"]
def b_sum_value : List PS := [.set 3 (.tup [(.cst (.int 0)), (.cst (.int 1))]),
  .for_ (.nm 4) .val [(.var 2)] [.set 3 (.call 2 [(.var 3), (.call 6 [(.var 0), (.var 1), (.var 4)])])],
  .ret (.var 3)]
def n_sum_value : List Str := ["world", "values", "terms", "found", "term"]
def b_looked_up : List PS := [.setT [2, 3] (.var 0),
  .ret (.mth .get (.var 2) [(.var 1), (.var 3)])]
def n_looked_up : List Str := ["entries_and_default", "key", "entries", "default"]
def b_word_at : List PS := [.while_ (.cmp .eq (.idx (.var 2) (.cst (.int 0))) (.cst (.str "write"))) [.ife (.cmp .eq (.call 6 [(.var 0), (.var 1), (.idx (.var 2) (.cst (.int 2)))]) (.var 3)) [.ret (.call 6 [(.var 0), (.var 1), (.idx (.var 2) (.cst (.int 3)))])] [], .set 2 (.idx (.var 2) (.cst (.int 1)))],
  .ret (.call 4 [(.idx (.var 1) (.idx (.var 2) (.cst (.int 1)))), (.tup [(.var 3)])])]
def n_word_at : List Str := ["world", "values", "row", "place"]
def b_value_of : List PS := [.ife (.cmp .eq (.idx (.var 2) (.cst (.int 0))) (.cst (.str "unknown"))) [.ret (.idx (.var 1) (.idx (.var 2) (.cst (.int 1))))] [],
  .ife (.cmp .eq (.idx (.var 2) (.cst (.int 0))) (.cst (.str "member"))) [.ret (.idx (.var 2) (.cst (.int 2)))] [],
  .ife (.cmp .eq (.idx (.var 2) (.cst (.int 0))) (.cst (.str "number"))) [.ret (.tup [(.idx (.var 2) (.cst (.int 1))), (.idx (.var 2) (.cst (.int 2)))])] [],
  .ife (.cmp .eq (.idx (.var 2) (.cst (.int 0))) (.cst (.str "plus"))) [.ret (.call 3 [(.var 0), (.var 1), (.idx (.var 2) (.cst (.int 1)))])] [],
  .ife (.cmp .eq (.idx (.var 2) (.cst (.int 0))) (.cst (.str "times"))) [.setT [4, 5] (.call 6 [(.var 0), (.var 1), (.idx (.var 2) (.cst (.int 2)))]), .ret (.call 1 [(.bin .mul (.idx (.var 2) (.cst (.int 1))) (.var 4)), (.var 5)])] [],
  .ife (.cmp .eq (.idx (.var 2) (.cst (.int 0))) (.cst (.str "apply"))) [.set 3 (.blt .tuple [(.comp (.nm 6) .val [(.idx (.var 2) (.cst (.int 2)))] [] (.call 6 [(.var 0), (.var 1), (.var 6)]))]), .ret (.call 4 [(.idx (.var 1) (.idx (.var 2) (.cst (.int 1)))), (.var 3)])] [],
  .ret (.call 5 [(.var 0), (.var 1), (.idx (.var 2) (.cst (.int 1))), (.call 6 [(.var 0), (.var 1), (.idx (.var 2) (.cst (.int 2)))])])]
def n_value_of : List Str := ["world", "values", "term", "key", "top", "bottom", "part"]
def b__law_cell_at : List PS := [.ife (.cmp .lt (.var 1) (.blt .len [(.var 0)])) [.ret (.idx (.var 0) (.var 1))] [],
  .ret (.cst (.int 0))]
def n__law_cell_at : List Str := ["_law_script", "_law_k"]
def b__law_stream : List PS := [.set 2 (.lst []),
  .set 3 (.blt .abs [(.var 0)]),
  .for_ (.nm 4) .rng1 [(.var 1)] [.expr (.mth .append (.var 2) [(.bin .mod (.var 3) (.cst (.int 1000003)))]), .set 3 (.bin .fdiv (.var 3) (.cst (.int 1000003)))],
  .ife (.cmp .gt (.var 3) (.cst (.int 0))) [.ret (.var 2)] [],
  .set 5 (.lst []),
  .set 6 (.bin .add (.bin .mod (.var 0) (.cst (.int 2147483647))) (.cst (.int 48271))),
  .set 7 (.bin .add (.bin .mod (.var 0) (.cst (.int 2147483629))) (.cst (.int 16807))),
  .for_ (.nm 4) .rng1 [(.var 1)] [.set 6 (.bin .mod (.bin .mul (.var 6) (.cst (.int 48271))) (.cst (.int 2147483647))), .set 7 (.bin .mod (.bin .add (.bin .mul (.var 7) (.cst (.int 69621))) (.var 4)) (.cst (.int 2147483629))), .expr (.mth .append (.var 5) [(.bin .fdiv (.bin .add (.var 6) (.var 7)) (.cst (.int 7)))])],
  .ret (.var 5)]
def n__law_stream : List Str := ["_law_cell", "_law_many", "_law_digits", "_law_left", "_law_k", "_law_found", "_law_number", "_law_other"]
def b__law_take : List PS := [.ife (.cmp .eq (.blt .len [(.var 0)]) (.cst (.int 0))) [.ret (.cst (.int 0))] [],
  .ret (.mth .pop (.var 0) [])]
def n__law_take : List Str := ["_law_xs"]
def b__law_world : List PS := [.set 1 (.bin .add (.cst (.int 2)) (.bin .mod (.call 9 [(.var 0)]) (.cst (.int 4)))),
  .set 2 (.bin .sub (.bin .mod (.call 9 [(.var 0)]) (.cst (.int 101))) (.cst (.int 50))),
  .set 3 (.blt .min2 [(.cst (.int 50)), (.bin .add (.var 2) (.bin .mod (.call 9 [(.var 0)]) (.cst (.int 17))))]),
  .set 4 (.lst [(.tup [(.cst (.str "fraction"))]), (.tup [(.cst (.str "table")), (.var 1)]), (.tup [(.cst (.str "table")), (.bin .add (.cst (.int 2)) (.bin .mod (.bin .sub (.var 1) (.cst (.int 1))) (.cst (.int 4))))]), (.tup [(.cst (.str "range")), (.var 2), (.var 3)])]),
  .set 5 (.lst [(.tup [(.cst (.str "unknown")), (.cst (.str "p")), (.tup [(.cst (.str "truth"))])]), (.tup [(.cst (.str "unknown")), (.cst (.str "q")), (.tup [(.cst (.str "truth"))])]), (.tup [(.cst (.str "unknown")), (.cst (.str "x")), (.tup [(.cst (.str "fraction"))])])]),
  .set 5 (.bin .add (.var 5) (.lst [(.tup [(.cst (.str "unknown")), (.cst (.str "y")), (.tup [(.cst (.str "fraction"))])]), (.tup [(.cst (.str "unknown")), (.cst (.str "n")), (.idx (.var 4) (.cst (.int 3)))]), (.tup [(.cst (.str "unknown")), (.cst (.str "m")), (.idx (.var 4) (.cst (.int 3)))])])),
  .set 5 (.bin .add (.var 5) (.lst [(.tup [(.cst (.str "unknown")), (.cst (.str "t")), (.idx (.var 4) (.cst (.int 1)))]), (.tup [(.cst (.str "unknown")), (.cst (.str "u")), (.idx (.var 4) (.cst (.int 2)))])])),
  .set 6 (.call 9 [(.var 0)]),
  .expr (.mth .append (.var 5) [(.tup [(.cst (.str "function")), (.cst (.str "f")), (.tup [(.idx (.var 4) (.bin .mod (.var 6) (.cst (.int 3))))]), (.idx (.var 4) (.bin .mod (.bin .fdiv (.var 6) (.cst (.int 3))) (.cst (.int 4))))])]),
  .expr (.mth .append (.var 5) [(.tup [(.cst (.str "function")), (.cst (.str "g")), (.tup [(.idx (.var 4) (.bin .mod (.bin .fdiv (.var 6) (.cst (.int 12))) (.cst (.int 3)))), (.idx (.var 4) (.bin .mod (.bin .fdiv (.var 6) (.cst (.int 36))) (.cst (.int 3))))]), (.idx (.var 4) (.bin .mod (.bin .fdiv (.var 6) (.cst (.int 108))) (.cst (.int 4))))])]),
  .set 6 (.call 9 [(.var 0)]),
  .expr (.mth .append (.var 5) [(.tup [(.cst (.str "row")), (.cst (.str "a")), (.idx (.var 4) (.bin .mod (.var 6) (.cst (.int 3)))), (.idx (.var 4) (.bin .mod (.bin .fdiv (.var 6) (.cst (.int 3))) (.cst (.int 3))))])]),
  .expr (.mth .append (.var 5) [(.tup [(.cst (.str "row")), (.cst (.str "b")), (.idx (.var 4) (.bin .mod (.bin .fdiv (.var 6) (.cst (.int 9))) (.cst (.int 3)))), (.idx (.var 4) (.bin .mod (.bin .fdiv (.var 6) (.cst (.int 27))) (.cst (.int 3))))])]),
  .set 7 (.bin .mod (.bin .fdiv (.var 6) (.cst (.int 81))) (.blt .len [(.var 5)])),
  .ret (.blt .tuple [(.bin .add (.sl (.var 5) (.var 7) (.cst .non)) (.sl (.var 5) (.cst .non) (.var 7)))])]
def n__law_world : List Str := ["_law_xs", "_law_many", "_law_low", "_law_high", "_law_kinds", "_law_rows", "_law_number", "_law_at"]
def b__law_divisor : List PS := [.while_ (.cmp .ne (.var 1) (.cst (.int 0))) [.par [0, 1] [(.var 1), (.bin .mod (.var 0) (.var 1))]],
  .ret (.blt .abs [(.var 0)])]
def n__law_divisor : List Str := ["_law_one", "_law_other"]
def b__law_reduced : List PS := [.set 2 (.call 11 [(.var 0), (.var 1)]),
  .ret (.tup [(.bin .fdiv (.var 0) (.var 2)), (.bin .fdiv (.var 1) (.var 2))])]
def n__law_reduced : List Str := ["_law_top", "_law_bottom", "_law_share"]
def b__law_value : List PS := [.ife (.cmp .eq (.idx (.var 0) (.cst (.int 0))) (.cst (.str "truth"))) [.ret (.cmp .eq (.bin .mod (.var 1) (.cst (.int 2))) (.cst (.int 1)))] [],
  .ife (.cmp .eq (.idx (.var 0) (.cst (.int 0))) (.cst (.str "table"))) [.ret (.bin .mod (.var 1) (.idx (.var 0) (.cst (.int 1))))] [],
  .ife (.cmp .eq (.idx (.var 0) (.cst (.int 0))) (.cst (.str "range"))) [.ret (.tup [(.bin .add (.idx (.var 0) (.cst (.int 1))) (.bin .mod (.var 1) (.bin .add (.bin .sub (.idx (.var 0) (.cst (.int 2))) (.idx (.var 0) (.cst (.int 1)))) (.cst (.int 1))))), (.cst (.int 1))])] [],
  .set 2 (.cst (.int 1)),
  .ife (.cmp .eq (.bin .mod (.bin .fdiv (.var 1) (.cst (.int 21))) (.cst (.int 9))) (.cst (.int 8))) [.set 2 (.bin .add (.bin .pow (.cst (.int 10)) (.cst (.int 20))) (.cst (.int 39)))] [],
  .ret (.call 12 [(.bin .mul (.bin .sub (.bin .mod (.var 1) (.cst (.int 7))) (.cst (.int 3))) (.var 2)), (.bin .add (.cst (.int 1)) (.bin .mod (.bin .fdiv (.var 1) (.cst (.int 7))) (.cst (.int 3))))])]
def n__law_value : List Str := ["_law_kind", "_law_number", "_law_far"]
def b__law_entries : List PS := [.set 3 (.dct0),
  .for_ (.nm 4) .rng1 [(.bin .mod (.call 9 [(.var 2)]) (.cst (.int 6)))] [.set 5 (.blt .tuple [(.comp (.nm 6) .val [(.var 0)] [] (.call 13 [(.var 6), (.bin .mod (.call 9 [(.var 2)]) (.cst (.int 21)))]))]), .setI (.var 3) (.var 5) (.call 13 [(.var 1), (.call 9 [(.var 2)])])],
  .ret (.tup [(.var 3), (.call 13 [(.var 1), (.call 9 [(.var 2)])])])]
def n__law_entries : List Str := ["_law_places", "_law_kind", "_law_xs", "_law_entries_here", "_law_k", "_law_key", "_law_place"]
def b__law_values : List PS := [.set 2 (.dct0),
  .for_ (.nm 3) .val [(.var 0)] [.ife (.cmp .eq (.idx (.var 3) (.cst (.int 0))) (.cst (.str "unknown"))) [.setI (.var 2) (.idx (.var 3) (.cst (.int 1))) (.call 13 [(.idx (.var 3) (.cst (.int 2))), (.call 9 [(.var 1)])])] [.ife (.cmp .eq (.idx (.var 3) (.cst (.int 0))) (.cst (.str "row"))) [.setI (.var 2) (.idx (.var 3) (.cst (.int 1))) (.call 14 [(.tup [(.idx (.var 3) (.cst (.int 2)))]), (.idx (.var 3) (.cst (.int 3))), (.var 1)])] [.setI (.var 2) (.idx (.var 3) (.cst (.int 1))) (.call 14 [(.idx (.var 3) (.cst (.int 2))), (.idx (.var 3) (.cst (.int 3))), (.var 1)])]]],
  .ret (.var 2)]
def n__law_values : List Str := ["_law_world_here", "_law_xs", "_law_found", "_law_row"]
def b__law_sort : List PS := [.ife (.cmp .eq (.idx (.var 0) (.cst (.int 0))) (.cst (.str "table"))) [.ret (.var 0)] [],
  .ret (.cst (.str "number"))]
def n__law_sort : List Str := ["_law_kind"]
def b__law_leaf : List PS := [.set 3 (.call 9 [(.var 2)]),
  .set 4 (.lst []),
  .for_ (.nm 5) .val [(.var 0)] [.ife (.and (.cmp .eq (.idx (.var 5) (.cst (.int 0))) (.cst (.str "unknown"))) (.and (.cmp .ne (.idx (.idx (.var 5) (.cst (.int 2))) (.cst (.int 0))) (.cst (.str "truth"))) (.cmp .eq (.call 16 [(.idx (.var 5) (.cst (.int 2)))]) (.var 1)))) [.expr (.mth .append (.var 4) [(.tup [(.cst (.str "unknown")), (.idx (.var 5) (.cst (.int 1)))])])] []],
  .ife (.cmp .gt (.bin .mod (.var 3) (.cst (.int 3))) (.cst (.int 0))) [.ret (.idx (.var 4) (.bin .mod (.bin .fdiv (.var 3) (.cst (.int 3))) (.blt .len [(.var 4)])))] [],
  .ife (.cmp .ne (.var 1) (.cst (.str "number"))) [.ret (.tup [(.cst (.str "member")), (.idx (.var 1) (.cst (.int 1))), (.bin .mod (.bin .fdiv (.var 3) (.cst (.int 3))) (.idx (.var 1) (.cst (.int 1))))])] [],
  .setT [6, 7] (.call 12 [(.bin .sub (.bin .mod (.bin .fdiv (.var 3) (.cst (.int 3))) (.cst (.int 13))) (.cst (.int 6))), (.bin .add (.cst (.int 1)) (.bin .mod (.bin .fdiv (.var 3) (.cst (.int 39))) (.cst (.int 4))))]),
  .ret (.tup [(.cst (.str "number")), (.var 6), (.var 7)])]
def n__law_leaf : List Str := ["_law_world_here", "_law_sort_here", "_law_xs", "_law_number", "_law_some", "_law_row", "_law_top", "_law_bottom"]
def b__law_row_term : List PS := [.set 4 (.tup [(.cst (.str "row")), (.idx (.var 1) (.cst (.int 1)))]),
  .for_ (.nm 5) .rng1 [(.bin .mod (.call 9 [(.var 3)]) (.cst (.int 3)))] [.set 6 (.call 20 [(.var 0), (.call 16 [(.idx (.var 1) (.cst (.int 2)))]), (.bin .sub (.var 2) (.cst (.int 1))), (.var 3)]), .set 4 (.tup [(.cst (.str "write")), (.var 4), (.var 6), (.call 20 [(.var 0), (.call 16 [(.idx (.var 1) (.cst (.int 3)))]), (.bin .sub (.var 2) (.cst (.int 1))), (.var 3)])])],
  .ret (.var 4)]
def n__law_row_term : List Str := ["_law_world_here", "_law_row", "_law_deep", "_law_xs", "_law_found", "_law_k", "_law_place"]
def b__law_called : List PS := [.set 4 (.comp (.nm 5) .val [(.var 0)] [(.and (.cmp .ne (.idx (.var 5) (.cst (.int 0))) (.cst (.str "unknown"))) (.cmp .eq (.call 16 [(.idx (.var 5) (.cst (.int 3)))]) (.var 1)))] (.var 5)),
  .ife (.cmp .eq (.blt .len [(.var 4)]) (.cst (.int 0))) [.ret (.call 17 [(.var 0), (.var 1), (.var 3)])] [],
  .set 5 (.idx (.var 4) (.bin .mod (.call 9 [(.var 3)]) (.blt .len [(.var 4)]))),
  .ife (.cmp .eq (.idx (.var 5) (.cst (.int 0))) (.cst (.str "row"))) [.set 6 (.call 20 [(.var 0), (.call 16 [(.idx (.var 5) (.cst (.int 2)))]), (.bin .sub (.var 2) (.cst (.int 1))), (.var 3)]), .ret (.tup [(.cst (.str "read")), (.call 18 [(.var 0), (.var 5), (.var 2), (.var 3)]), (.var 6)])] [],
  .ret (.tup [(.cst (.str "apply")), (.idx (.var 5) (.cst (.int 1))), (.blt .tuple [(.comp (.nm 7) .val [(.idx (.var 5) (.cst (.int 2)))] [] (.call 20 [(.var 0), (.call 16 [(.var 7)]), (.bin .sub (.var 2) (.cst (.int 1))), (.var 3)]))])])]
def n__law_called : List Str := ["_law_world_here", "_law_sort_here", "_law_deep", "_law_xs", "_law_some", "_law_row", "_law_place", "_law_kind"]
def b__law_term : List PS := [.set 4 (.bin .mod (.call 9 [(.var 3)]) (.cst (.int 6))),
  .ife (.or (.cmp .le (.var 2) (.cst (.int 0))) (.cmp .eq (.var 4) (.cst (.int 0)))) [.ret (.call 17 [(.var 0), (.var 1), (.var 3)])] [],
  .ife (.or (.cmp .ne (.var 1) (.cst (.str "number"))) (.cmp .lt (.var 4) (.cst (.int 3)))) [.ret (.call 19 [(.var 0), (.var 1), (.var 2), (.var 3)])] [],
  .ife (.cmp .eq (.var 4) (.cst (.int 3))) [.ret (.tup [(.cst (.str "times")), (.bin .sub (.bin .mod (.call 9 [(.var 3)]) (.cst (.int 41))) (.cst (.int 20))), (.call 20 [(.var 0), (.var 1), (.bin .sub (.var 2) (.cst (.int 1))), (.var 3)])])] [],
  .set 5 (.bin .add (.cst (.int 1)) (.bin .mod (.call 9 [(.var 3)]) (.cst (.int 3)))),
  .ret (.tup [(.cst (.str "plus")), (.blt .tuple [(.comp (.nm 6) .rng1 [(.var 5)] [] (.call 20 [(.var 0), (.var 1), (.bin .sub (.var 2) (.cst (.int 1))), (.var 3)]))])])]
def n__law_term : List Str := ["_law_world_here", "_law_sort_here", "_law_deep", "_law_xs", "_law_way", "_law_many", "_law_k"]
def b__law_due : List PS := [.ife (.cmp .eq (.idx (.var 1) (.cst (.int 0))) (.cst (.str "unknown"))) [.ret (.idx (.var 0) (.idx (.var 1) (.cst (.int 1))))] [],
  .ife (.cmp .eq (.idx (.var 1) (.cst (.int 0))) (.cst (.str "member"))) [.ret (.idx (.var 1) (.cst (.int 2)))] [],
  .ife (.cmp .eq (.idx (.var 1) (.cst (.int 0))) (.cst (.str "number"))) [.ret (.tup [(.idx (.var 1) (.cst (.int 1))), (.idx (.var 1) (.cst (.int 2)))])] [],
  .ife (.cmp .eq (.idx (.var 1) (.cst (.int 0))) (.cst (.str "plus"))) [.par [4, 5] [(.cst (.int 0)), (.cst (.int 1))], .for_ (.nm 2) .val [(.idx (.var 1) (.cst (.int 1)))] [.set 3 (.call 21 [(.var 0), (.var 2)]), .par [4, 5] [(.bin .add (.bin .mul (.var 4) (.idx (.var 3) (.cst (.int 1)))) (.bin .mul (.idx (.var 3) (.cst (.int 0))) (.var 5))), (.bin .mul (.var 5) (.idx (.var 3) (.cst (.int 1))))]], .ret (.call 12 [(.var 4), (.var 5)])] [],
  .ife (.cmp .eq (.idx (.var 1) (.cst (.int 0))) (.cst (.str "times"))) [.set 3 (.call 21 [(.var 0), (.idx (.var 1) (.cst (.int 2)))]), .ret (.call 12 [(.bin .mul (.idx (.var 1) (.cst (.int 1))) (.idx (.var 3) (.cst (.int 0)))), (.idx (.var 3) (.cst (.int 1)))])] [],
  .ife (.cmp .eq (.idx (.var 1) (.cst (.int 0))) (.cst (.str "apply"))) [.setT [6, 7] (.idx (.var 0) (.idx (.var 1) (.cst (.int 1)))), .ret (.mth .get (.var 6) [(.blt .tuple [(.comp (.nm 2) .val [(.idx (.var 1) (.cst (.int 2)))] [] (.call 21 [(.var 0), (.var 2)]))]), (.var 7)])] [],
  .ret (.call 22 [(.var 0), (.idx (.var 1) (.cst (.int 1))), (.call 21 [(.var 0), (.idx (.var 1) (.cst (.int 2)))])])]
def n__law_due : List Str := ["_law_values_here", "_law_term_here", "_law_part", "_law_more", "_law_top", "_law_bottom", "_law_entries_here", "_law_default"]
def b__law_word : List PS := [.ife (.cmp .eq (.idx (.var 1) (.cst (.int 0))) (.cst (.str "row"))) [.setT [3, 4] (.idx (.var 0) (.idx (.var 1) (.cst (.int 1)))), .ret (.mth .get (.var 3) [(.tup [(.var 2)]), (.var 4)])] [],
  .ife (.cmp .eq (.call 21 [(.var 0), (.idx (.var 1) (.cst (.int 2)))]) (.var 2)) [.ret (.call 21 [(.var 0), (.idx (.var 1) (.cst (.int 3)))])] [],
  .ret (.call 22 [(.var 0), (.idx (.var 1) (.cst (.int 1))), (.var 2)])]
def n__law_word : List Str := ["_law_values_here", "_law_row", "_law_place", "_law_entries_here", "_law_default"]
def b__law_right : List PS := [.ife (.isi (.var 1) [.tuple]) [.ife (.or (.not (.isi (.var 0) [.tuple])) (.cmp .ne (.blt .len [(.var 0)]) (.cst (.int 2)))) [.ret (.cst (.bl false))] [], .ret (.and (.cmp .eq (.var 0) (.var 1)) (.cmp .eq (.blt .len [(.comp (.nm 2) .val [(.var 0)] [(.isi (.var 2) [.bool])] (.var 2))]) (.cst (.int 0))))] [],
  .ret (.and (.isi (.var 0) [.int]) (.and (.not (.isi (.var 0) [.bool])) (.cmp .eq (.var 0) (.var 1))))]
def n__law_right : List Str := ["_law_found", "_law_due_here", "_law_part"]
def b_law : List PS := [.set 1 (.call 10 [(.call 8 [(.call 7 [(.var 0), (.cst (.int 0))]), (.cst (.int 7))])]),
  .set 2 (.call 15 [(.var 1), (.call 8 [(.call 7 [(.var 0), (.cst (.int 1))]), (.cst (.int 90))])]),
  .set 3 (.bin .add (.lst [(.cst (.str "number")), (.cst (.str "number"))]) (.comp (.nm 7) .val [(.var 1)] [(.cmp .in_ (.idx (.var 7) (.cst (.int 1))) (.tup [(.cst (.str "t")), (.cst (.str "u"))]))] (.idx (.var 7) (.cst (.int 2))))),
  .for_ (.nm 4) .rng1 [(.blt .max2 [(.cst (.int 3)), (.blt .min2 [(.cst (.int 12)), (.bin .sub (.blt .len [(.var 0)]) (.cst (.int 2)))])])] [.set 5 (.call 8 [(.bin .add (.call 7 [(.var 0), (.bin .add (.cst (.int 2)) (.var 4))]) (.var 4)), (.cst (.int 80))]), .set 6 (.call 20 [(.var 1), (.idx (.var 3) (.bin .mod (.call 9 [(.var 5)]) (.cst (.int 4)))), (.cst (.int 4)), (.var 5)]), .ife (.not (.call 23 [(.call 6 [(.var 1), (.var 2), (.var 6)]), (.call 21 [(.var 2), (.var 6)])])) [.ret (.cst (.bl false))] []],
  .ret (.cmp .eq (.var 2) (.call 15 [(.var 1), (.call 8 [(.call 7 [(.var 0), (.cst (.int 1))]), (.cst (.int 90))])]))]
def n_law : List Str := ["_law_script", "_law_world_here", "_law_given", "_law_sorts", "_law_k", "_law_xs", "_law_term_here", "_law_row"]
def fns : List Fn := [⟨2, 4, b_divisor_of⟩, ⟨2, 3, b_reduced⟩, ⟨2, 2, b_sum_of_two⟩, ⟨3, 5, b_sum_value⟩, ⟨2, 4, b_looked_up⟩, ⟨4, 4, b_word_at⟩, ⟨3, 7, b_value_of⟩, ⟨2, 2, b__law_cell_at⟩, ⟨2, 8, b__law_stream⟩, ⟨1, 1, b__law_take⟩, ⟨1, 8, b__law_world⟩, ⟨2, 2, b__law_divisor⟩, ⟨2, 3, b__law_reduced⟩, ⟨2, 3, b__law_value⟩, ⟨3, 7, b__law_entries⟩, ⟨2, 4, b__law_values⟩, ⟨1, 1, b__law_sort⟩, ⟨3, 8, b__law_leaf⟩, ⟨4, 7, b__law_row_term⟩, ⟨4, 8, b__law_called⟩, ⟨4, 7, b__law_term⟩, ⟨2, 8, b__law_due⟩, ⟨3, 5, b__law_word⟩, ⟨2, 3, b__law_right⟩, ⟨1, 8, b_law⟩]
end Pg
end
section
set_option Elab.async false
set_option linter.all false
set_option maxRecDepth 100000
namespace Ev
open PySem
/-! ### plain data -/
mutual
theorem pure_under (b : Nat) : ∀ d : D, d.pure = true → d.under b = true
  | .non, _ => rfl
  | .bl _, _ => rfl
  | .int _, _ => rfl
  | .str _, _ => rfl
  | .tup ds, h => by unfold D.pure at h; unfold D.under; exact pures_under b ds h
  | .lst _, h => by cases h
  | .dct _ _, h => by cases h
  | .nd _ _, h => by cases h
  | .fz _, h => by cases h
  | .ref _, h => by cases h
  | .exc _, h => by cases h
theorem pures_under (b : Nat) : ∀ ds : List D, pures ds = true → unders b ds = true
  | [], _ => rfl
  | d :: ds, h => by
    unfold pures at h
    obtain ⟨h1, h2⟩ := Bool.and_eq_true_iff.mp h
    unfold unders
    rw [pure_under b d h1, pures_under b ds h2]; rfl
end
mutual
theorem settle_pure : ∀ (d : D) (S : Sto), d.pure = true → settle d S = (d, S)
  | .non, _, _ => rfl
  | .bl _, _, _ => rfl
  | .int _, _, _ => rfl
  | .str _, _, _ => rfl
  | .tup ds, S, h => by
    unfold D.pure at h
    unfold settle
    rw [settles_pure ds S h]
  | .lst _, _, h => by cases h
  | .dct _ _, _, h => by cases h
  | .nd _ _, _, h => by cases h
  | .fz _, _, h => by cases h
  | .ref _, _, h => by cases h
  | .exc _, _, h => by cases h
theorem settles_pure : ∀ (ds : List D) (S : Sto), pures ds = true → settles ds S = (ds, S)
  | [], _, _ => rfl
  | d :: ds, S, h => by
    unfold pures at h
    obtain ⟨h1, h2⟩ := Bool.and_eq_true_iff.mp h
    unfold settles
    rw [settle_pure d S h1]
    simp only
    rw [settles_pure ds S h2]
end
theorem pures_all : ∀ ds : List D, pures ds = ds.all D.pure
  | [] => rfl
  | d :: ds => by unfold pures; rw [List.all_cons, pures_all ds]
theorem unders_all (b : Nat) : ∀ ds : List D, unders b ds = ds.all (D.under b)
  | [] => rfl
  | d :: ds => by unfold unders; rw [List.all_cons, unders_all b ds]
/-- every object of the store names objects of the store -/
def Cl (S : Sto) : Prop := unders S.length S = true
theorem Cl.nil : Cl [] := rfl
theorem closed_of {S l : Sto} (h : Cl S) : closed S.length (S ++ l) = true := by
  unfold closed
  rw [List.take_left]; exact h
mutual
theorem under_mono {a b : Nat} (hab : a ≤ b) : ∀ d : D, d.under a = true → d.under b = true
  | .non, _ => rfl
  | .bl _, _ => rfl
  | .int _, _ => rfl
  | .str _, _ => rfl
  | .exc _, _ => rfl
  | .tup ds, h => by unfold D.under at h ⊢; exact unders_mono hab ds h
  | .lst ds, h => by unfold D.under at h ⊢; exact unders_mono hab ds h
  | .fz ds, h => by unfold D.under at h ⊢; exact unders_mono hab ds h
  | .dct ks vs, h => by
    unfold D.under at h ⊢
    obtain ⟨h1, h2⟩ := Bool.and_eq_true_iff.mp h
    rw [unders_mono hab ks h1, unders_mono hab vs h2]; rfl
  | .nd ks vs, h => by
    unfold D.under at h ⊢
    obtain ⟨h1, h2⟩ := Bool.and_eq_true_iff.mp h
    rw [unders_mono hab ks h1, unders_mono hab vs h2]; rfl
  | .ref n, h => by
    unfold D.under at h ⊢
    have := of_decide_eq_true h
    exact decide_eq_true (by omega)
theorem unders_mono {a b : Nat} (hab : a ≤ b) : ∀ ds : List D, unders a ds = true → unders b ds = true
  | [], _ => rfl
  | d :: ds, h => by
    unfold unders at h ⊢
    obtain ⟨h1, h2⟩ := Bool.and_eq_true_iff.mp h
    rw [under_mono hab d h1, unders_mono hab ds h2]; rfl
end
theorem Cl.app {S l : Sto} (h : Cl S) (hl : unders (S.length + l.length) l = true) : Cl (S ++ l) := by
  unfold Cl at h ⊢
  rw [List.length_append, unders_all, List.all_append, ← unders_all, ← unders_all, unders_mono (by omega) S h, hl]; rfl
theorem Cl.set {S : Sto} {i : Nat} {d : D} (h : Cl S) (hd : d.under S.length = true) : Cl (S.set i d) := by
  unfold Cl at h ⊢
  rw [List.length_set, unders_all, List.all_eq_true]
  rw [unders_all, List.all_eq_true] at h
  intro x hx
  rcases List.mem_or_eq_of_mem_set hx with m | m
  · exact h x m
  · rw [m]; exact hd
/-! ### calls -/
def finish (b : Nat) : Option (Fl × Sto) → Option (R D)
  | some (.nx _, S') => leave b .non S'
  | some (.ret d, S') => leave b d S'
  | some (.ex c, S') => leaveX b c S'
  | none => none
theorem call_eq {fns : List Fn} {isa : Nat → Ty → Bool} {n f : Nat} {ds : List D} {S : Sto} {np ns : Nat} {body : List PS} (hf : fns[f]? = some ⟨np, ns, body⟩) (hl : ds.length = np) :
    callN fns isa (n + 1) f ds S = finish S.length (execB ⟨callN fns isa n, isa⟩ body (startE ns (settles ds S).1) (settles ds S).2) := by
  conv => lhs; unfold callN
  rw [hf]
  simp only [hl, if_true]
  cases execB ⟨callN fns isa n, isa⟩ body (startE ns (settles ds S).1) (settles ds S).2 with
  | none => rfl
  | some q => obtain ⟨fl, S'⟩ := q; cases fl <;> rfl
theorem leave_pure {S l : Sto} {d : D} (hc : Cl S) (h : d.pure = true) : leave S.length d (S ++ l) = some (.ok d S) := by
  unfold leave
  rw [if_pos (closed_of hc)]
  unfold reify taken
  rw [pure_under _ d h]
  simp
theorem leave_pure0 {S : Sto} {d : D} (hc : Cl S) (h : d.pure = true) : leave S.length d S = some (.ok d S) := by
  have := leave_pure (l := []) hc h
  simpa using this
theorem mapM_pure {S : Sto} {b k : Nat} : ∀ ds : List D, pures ds = true → ds.mapM (reify S b (k + 1)) = some ds
  | [], _ => rfl
  | d :: ds, h => by
    unfold pures at h
    obtain ⟨h1, h2⟩ := Bool.and_eq_true_iff.mp h
    rw [List.mapM_cons, mapM_pure ds h2]
    unfold reify
    rw [pure_under b d h1]
    rfl
theorem taken_pure {S : Sto} {b k : Nat} : ∀ ds : List D, pures ds = true → ds.flatMap (taken S b (k + 1)) = []
  | [], _ => rfl
  | d :: ds, h => by
    unfold pures at h
    obtain ⟨h1, h2⟩ := Bool.and_eq_true_iff.mp h
    rw [List.flatMap_cons, taken_pure ds h2]
    unfold taken
    rw [pure_under b d h1]
    rfl
/-- a list of plain data is handed back -/
theorem leave_lst {S l : Sto} {k : Nat} {ds : List D} (hc : Cl S) (hk : l[k]? = some (.lst ds)) (h : pures ds = true) : leave S.length (.ref (S.length + k)) (S ++ l) = some (.ok (.lst ds) S) := by
  unfold leave
  rw [if_pos (closed_of hc)]
  have hu : (D.ref (S.length + k)).under S.length = false := by unfold D.under; exact decide_eq_false (by omega)
  have hg : (S ++ l)[S.length + k]? = some (.lst ds) := by
    rw [List.getElem?_append_right (by omega)]
    simpa using hk
  unfold reify taken
  simp only [hu, hg, mapM_pure ds h, taken_pure ds h]
  simp
/-- an own list that the def hands back at once -/
theorem leave_own {S l : Sto} {ds : List D} (hc : Cl S) (h : pures ds = true) : leave S.length (.lst ds) (S ++ l) = some (.ok (.lst ds) S) := by
  unfold leave
  rw [if_pos (closed_of hc)]
  have hu : (D.lst ds).under S.length = true := by unfold D.under; exact pures_under _ ds h
  unfold reify taken
  simp only [hu]
  simp
/-! ### the store as a base and what is laid behind it -/
theorem get_app {S l : Sto} {k : Nat} : (S ++ l)[S.length + k]? = l[k]? := by
  rw [List.getElem?_append_right (by omega)]; simp
theorem get_app0 {S l : Sto} : (S ++ l)[S.length]? = l[0]? := by
  rw [List.getElem?_append_right (by omega)]; simp
theorem set_app {S l : Sto} {k : Nat} {d : D} : (S ++ l).set (S.length + k) d = S ++ l.set k d := by
  rw [List.set_append_right _ _ (by omega)]; simp
theorem set_app0 {S l : Sto} {d : D} : (S ++ l).set S.length d = S ++ l.set 0 d := by
  rw [List.set_append_right _ _ (by omega)]; simp
theorem guard_none {α : Type} {S : Sto} {x : Option α} : guardS none S x = x := by
  unfold guardS
  exact if_pos trivial
theorem guard_some {α : Type} {S : Sto} {x : Option α} {n : Nat} {ds : List D} (h : S[n]? = some (.lst ds)) : guardS (some (n, ds)) S x = x := by
  unfold guardS
  exact if_pos h
end Ev
end
section
set_option Elab.async false
set_option linter.all false
set_option maxRecDepth 100000
namespace Ev
open PySem
section
variable {S l : Sto} {g : G} {ρ : Env}
@[simp] theorem leave_int0 {i : Int} (h : Cl S) : leave S.length (.int i) S = some (.ok (.int i) S) := leave_pure0 h rfl
@[simp] theorem leave_int {i : Int} (h : Cl S) : leave S.length (.int i) (S ++ l) = some (.ok (.int i) S) := leave_pure h rfl
@[simp] theorem leave_bl0 {i : Bool} (h : Cl S) : leave S.length (.bl i) S = some (.ok (.bl i) S) := leave_pure0 h rfl
@[simp] theorem leave_bl {i : Bool} (h : Cl S) : leave S.length (.bl i) (S ++ l) = some (.ok (.bl i) S) := leave_pure h rfl
@[simp] theorem leave_str0 {i : Str} (h : Cl S) : leave S.length (.str i) S = some (.ok (.str i) S) := leave_pure0 h rfl
@[simp] theorem leave_str {i : Str} (h : Cl S) : leave S.length (.str i) (S ++ l) = some (.ok (.str i) S) := leave_pure h rfl
@[simp] theorem leave_non0 (h : Cl S) : leave S.length .non S = some (.ok .non S) := leave_pure0 h rfl
@[simp] theorem leave_non (h : Cl S) : leave S.length .non (S ++ l) = some (.ok .non S) := leave_pure h rfl
@[simp] theorem leave_tup0 {ds : List D} (h : Cl S) (hp : pures ds = true) : leave S.length (.tup ds) S = some (.ok (.tup ds) S) := leave_pure0 h (by unfold D.pure; exact hp)
@[simp] theorem leave_tup {ds : List D} (h : Cl S) (hp : pures ds = true) : leave S.length (.tup ds) (S ++ l) = some (.ok (.tup ds) S) := leave_pure h (by unfold D.pure; exact hp)
/-! truth -/
@[simp] theorem truth_non : truth S .non = some false := rfl
@[simp] theorem truth_bl {b : Bool} : truth S (.bl b) = some b := rfl
@[simp] theorem truth_int {i : Int} : truth S (.int i) = some (i != 0) := rfl
@[simp] theorem truth_tup {ds : List D} : truth S (.tup ds) = some (!ds.isEmpty) := rfl
@[simp] theorem truth_lst {ds : List D} : truth S (.lst ds) = some (!ds.isEmpty) := rfl
@[simp] theorem truth_fz {ds : List D} : truth S (.fz ds) = some (!ds.isEmpty) := rfl
/-! the shape of sequences -/
@[simp] theorem listOf_lst {ds : List D} : Ev.listOf S (.lst ds) = some ds := rfl
@[simp] theorem listOf_fz {ds : List D} : Ev.listOf S (.fz ds) = some ds := rfl
@[simp] theorem listOf_tup {ds : List D} : Ev.listOf S (.tup ds) = none := rfl
@[simp] theorem listOf_int {i : Int} : Ev.listOf S (.int i) = none := rfl
@[simp] theorem listOf_str {i : Str} : Ev.listOf S (.str i) = none := rfl
@[simp] theorem listOf_dct {a b : List D} : Ev.listOf S (.dct a b) = none := rfl
theorem listOf_ref {n : Nat} {ds : List D} (h : S[n]? = some (.lst ds)) : Ev.listOf S (.ref n) = some ds := by show (match S[n]? with | some (.lst ds) => some ds | _ => none) = _; rw [h]
theorem listOf_refd {n : Nat} {a b : List D} (h : S[n]? = some (.dct a b)) : Ev.listOf S (.ref n) = none := by show (match S[n]? with | some (.lst ds) => some ds | _ => none) = _; rw [h]
@[simp] theorem seqOf_tup {ds : List D} : Ev.seqOf S (.tup ds) = some ds := rfl
@[simp] theorem seqOf_lst {ds : List D} : Ev.seqOf S (.lst ds) = some ds := rfl
@[simp] theorem seqOf_fz {ds : List D} : Ev.seqOf S (.fz ds) = some ds := rfl
@[simp] theorem seqOf_ref {n : Nat} : Ev.seqOf S (.ref n) = Ev.listOf S (.ref n) := rfl
@[simp] theorem seqOf_dct {a b : List D} : Ev.seqOf S (.dct a b) = none := rfl
@[simp] theorem dictOf_dct {a b : List D} : Ev.dictOf S (.dct a b) = some (a, b) := rfl
theorem dictOf_ref {n : Nat} {a b : List D} (h : S[n]? = some (.dct a b)) : Ev.dictOf S (.ref n) = some (a, b) := by show (match S[n]? with | some (.dct ks vs) => some (ks, vs) | _ => none) = _; rw [h]
@[simp] theorem mutOf_lst {ds : List D} : Ev.mutOf S (.lst ds) = some ds := rfl
theorem mutOf_ref {n : Nat} {ds : List D} (h : S[n]? = some (.lst ds)) : Ev.mutOf S (.ref n) = some ds := by show (match S[n]? with | some (.lst ds) => some ds | _ => none) = _; rw [h]
/-! arithmetic -/
@[simp] theorem bin_add {i j : Int} : binE S .add (.int i) (.int j) = some (.int (i + j)) := rfl
@[simp] theorem bin_sub {i j : Int} : binE S .sub (.int i) (.int j) = some (.int (i - j)) := rfl
theorem bin_mul {i j : Int} (h : mulOk i j = true) : binE S .mul (.int i) (.int j) = some (.int (i * j)) := by show (if mulOk i j then _ else _) = _; rw [if_pos h]
theorem bin_fdiv {i j : Int} (h : divOk j = true) : binE S .fdiv (.int i) (.int j) = some (.int (i.fdiv j)) := by show (if divOk j then _ else _) = _; rw [if_pos h]
theorem bin_mod {i j : Int} (h : j ≠ 0) : binE S .mod (.int i) (.int j) = some (.int (i.fmod j)) := by show (if decide (j ≠ 0) then _ else _) = _; rw [if_pos (decide_eq_true h)]
/-! comparisons -/
@[simp] theorem cmp_lt {i j : Int} : cmpE S .lt (.int i) (.int j) = some (decide (i < j)) := rfl
@[simp] theorem cmp_gt {i j : Int} : cmpE S .gt (.int i) (.int j) = some (decide (j < i)) := rfl
@[simp] theorem cmp_le {i j : Int} : cmpE S .le (.int i) (.int j) = some (decide (i ≤ j)) := rfl
@[simp] theorem cmp_ge {i j : Int} : cmpE S .ge (.int i) (.int j) = some (decide (j ≤ i)) := rfl
@[simp] theorem cmp_eq {a b : D} : cmpE S .eq a b = orD (eqE S a b) S a b := by cases a <;> rfl
@[simp] theorem cmp_ne {a b : D} : cmpE S .ne a b = (eqE S a b).map (!·) := by cases a <;> rfl
theorem cmp_in {a b : D} : cmpE S .in_ a b = inE S a b := by cases a <;> rfl
theorem cmp_nin {a b : D} : cmpE S .notin a b = (inE S a b).map (!·) := by cases a <;> rfl
theorem res_pure {d : D} {k : Nat} (h : d.pure = true) : res S (k + 1) d = some d := by unfold res; rw [if_pos h]
theorem eq_pure {a b : D} (ha : a.pure = true) (hb : b.pure = true) (hd : min a.depth b.depth ≤ 150) : eqE S a b = some (a.eqv b) := by
  unfold eqE
  rw [res_pure ha, res_pure hb]
  exact if_pos hd
@[simp] theorem eq_int {i j : Int} : eqE S (.int i) (.int j) = some (decide (i = j)) := eq_pure rfl rfl (by simp [D.depth])
@[simp] theorem eq_str {i j : Str} : eqE S (.str i) (.str j) = some (decide (i = j)) := eq_pure rfl rfl (by simp [D.depth])
/-! built-ins -/
@[simp] theorem len_seq {a : D} {ds : List D} (h : Ev.seqOf S a = some ds) : bltE S .len [a] = some (.int ds.length) := by
  cases a <;> first | (cases h; done) | (cases h; rfl) | (show (match Ev.seqOf S (.ref _) with | some ds => some (D.int ds.length) | none => _) = _; rw [h]) | skip
@[simp] theorem abs_int {i : Int} : bltE S .abs [.int i] = some (.int (if i < 0 then -i else i)) := rfl
@[simp] theorem tuple_seq {a : D} : bltE S .tuple [a] = (Ev.seqOf S a).map .tup := rfl
@[simp] theorem list_seq {a : D} : bltE S .list [a] = (Ev.seqOf S a).map .lst := rfl
@[simp] theorem int_bl {b : Bool} : bltE S .int [.bl b] = some (.int (if b then 1 else 0)) := rfl
theorem sum_list {a : D} {ds : List D} {ns : List Int} (h : Ev.listOf S a = some ds) (hn : intsOf ds = some ns) : bltE S .sum [a] = some (.int ns.sum) := by
  show (match (Ev.listOf S a).bind intsOf with | some ns => some (D.int ns.sum) | none => none) = _
  rw [h, Option.bind_some, hn]
@[simp] theorem intsOf_map : ∀ ns : List Int, intsOf (ns.map .int) = some ns
  | [] => rfl
  | i :: ns => by rw [List.map_cons]; show (intsOf (ns.map .int)).map (i :: ·) = _; rw [intsOf_map ns]; rfl
/-! places -/
theorem idx_tup {ds : List D} {i : Int} : idxE S (.tup ds) (.int i) = atI ds i := rfl
theorem idx_list {a : D} {ds : List D} {i : Int} (h : Ev.listOf S a = some ds) : idxE S a (.int i) = atI ds i := by
  cases a <;> first | (cases h; done) | (cases h; rfl) | (show (match Ev.listOf S (.ref _) with | some ds => _ | none => _) = _; rw [h])
/-! kinds -/
@[simp] theorem isTys_one {isa : Nat → Ty → Bool} {d : D} {t : Ty} {b : Bool} (h : isTy isa S t d = some b) : isTys isa S d [t] = some b := by
  unfold isTys
  rw [h]
  cases b <;> rfl
section
variable {isa : Nat → Ty → Bool}
@[simp] theorem isi_int_int {i : Int} : isTys isa S (.int i) [.int] = some true := rfl
@[simp] theorem isi_int_bool {i : Int} : isTys isa S (.int i) [.bool] = some false := rfl
@[simp] theorem isi_int_tuple {i : Int} : isTys isa S (.int i) [.tuple] = some false := rfl
@[simp] theorem isi_int_str {i : Int} : isTys isa S (.int i) [.str] = some false := rfl
@[simp] theorem isi_str_str {i : Str} : isTys isa S (.str i) [.str] = some true := rfl
@[simp] theorem isi_str_tuple {i : Str} : isTys isa S (.str i) [.tuple] = some false := rfl
@[simp] theorem isi_tup_tuple {i : List D} : isTys isa S (.tup i) [.tuple] = some true := rfl
@[simp] theorem isi_tup_str {i : List D} : isTys isa S (.tup i) [.str] = some false := rfl
@[simp] theorem isi_lst_list {i : List D} : isTys isa S (.lst i) [.list] = some true := rfl
theorem isi_ref_list {n : Nat} {i : List D} (h : S[n]? = some (.lst i)) : isTys isa S (.ref n) [.list] = some true := by
  refine isTys_one ?_
  show (match (match S[n]? with | some (.lst _) => some VT.lst | some (.dct _ _) => some VT.dct | _ => none) with | some v => isVT .list v | none => none) = _
  rw [h]; rfl
end
theorem forL_rel {f : D → Env → Sto → Option (Fl × Sto)} : ∀ (its : List D) (P : Nat → Env → Sto → Prop), (∀ k d ρ S, its[k]? = some d → P k ρ S → ∃ ρ' S', f d ρ S = some (.nx ρ', S') ∧ P (k + 1) ρ' S') → ∀ ρ S, P 0 ρ S → ∃ ρ' S', forL none f its ρ S = some (.nx ρ', S') ∧ P its.length ρ' S'
  | [], P, h, ρ, S, p => ⟨ρ, S, by unfold forL; exact guard_none, p⟩
  | d :: its, P, h, ρ, S, p => by
    obtain ⟨ρ1, S1, e1, p1⟩ := h 0 d ρ S rfl p
    obtain ⟨ρ2, S2, e2, p2⟩ := forL_rel its (fun k => P (k + 1)) (fun k d ρ S hk => h (k + 1) d ρ S (by simpa using hk)) ρ1 S1 p1
    refine ⟨ρ2, S2, ?_, p2⟩
    unfold forL
    rw [guard_none, e1, seqS_nx, e2]
theorem mul_small {i j : Int} (hi : i.natAbs < 2 ^ 100) (hj : j.natAbs < 2 ^ 100) : mulOk i j = true := by
  have q : ∀ n : Nat, n < 2 ^ 100 → n.log2 < 100 := fun n h => by
    by_cases h0 : n = 0
    · subst h0; decide
    · exact (Nat.log2_lt h0).mpr h
  unfold mulOk
  have := q _ hi
  have := q _ hj
  exact decide_eq_true (by omega)
@[simp] theorem items_rng1 {j : Int} (h : j ≤ 1000000) (h' : -1000000 ≤ j) : itemsOf S .rng1 [.int j] = some ((List.range j.toNat).map fun (k : Nat) => D.int k, none) := by
  show (if decide (j ≤ 1000000) && decide (-1000000 ≤ j) then _ else _) = _
  rw [decide_eq_true h, decide_eq_true h']; rfl
end
end Ev
end
section
set_option Elab.async false
set_option linter.all false
set_option maxRecDepth 100000
namespace Ev
section
variable {g : G} {s : PS} {ss : List PS} {ρ ρ1 : Env} {S S1 : Sto} {r : Option (Fl × Sto)} {d : D}
theorem mutOf_r {n : Nat} : Ev.mutOf S (.ref n) = match S[n]? with | some (.lst ds) => some ds | _ => none := rfl
theorem listOf_r {n : Nat} : Ev.listOf S (.ref n) = match S[n]? with | some (.lst ds) => some ds | _ => none := rfl
theorem dictOf_r {n : Nat} : Ev.dictOf S (.ref n) = match S[n]? with | some (.dct ks vs) => some (ks, vs) | _ => none := rfl
theorem idx_r {n : Nat} {i : Int} : idxE S (.ref n) (.int i) = match S[n]? with | some (.lst ds) => Ev.atI ds i | some (.dct ks vs) => getK ks vs (.int i) | _ => none := by
  show (match Ev.listOf S (.ref n) with | some ds => Ev.atI ds i | none => match Ev.dictOf S (.ref n) with | some (ks, vs) => if keyOk (.int i) then getK ks vs (.int i) else none | none => none) = _
  rw [listOf_r, dictOf_r]
  cases S[n]? with
  | none => rfl
  | some o => cases o <;> rfl
theorem idx_l {ds : List D} {i : Int} : idxE S (.lst ds) (.int i) = Ev.atI ds i := rfl
theorem idx_f {ds : List D} {i : Int} : idxE S (.fz ds) (.int i) = Ev.atI ds i := rfl
theorem mth_append {n : Nat} {v : D} : mthE .append (.ref n) [v] S = match S[n]? with | some (.lst ds) => if ds.length < 16777216 then some (.non, (settle v S).2.set n (.lst (ds ++ [(settle v S).1]))) else none | _ => none := rfl
theorem mth_pop {n : Nat} : mthE .pop (.ref n) [] S = match S[n]? with | some (.lst ds) => (match ds.getLast? with | some d => some (d, S.set n (.lst ds.dropLast)) | none => none) | _ => none := rfl
theorem rcv_append {n : Nat} : recvOk .append (.ref n) S = (Ev.listOf S (.ref n)).isSome := rfl
theorem rcv_pop {n : Nat} : recvOk .pop (.ref n) S = (Ev.listOf S (.ref n)).isSome := rfl
theorem rcv_extend {n : Nat} : recvOk .extend (.ref n) S = (Ev.listOf S (.ref n)).isSome := rfl
theorem atI_nat {α : Type} {xs : List α} {k : Nat} : Ev.atI xs (k : Int) = xs[k]? := by
  unfold Ev.atI
  rw [if_pos (Int.natCast_nonneg k)]; rfl
theorem atI_0 {α : Type} {xs : List α} : Ev.atI xs 0 = xs[0]? := rfl
theorem atI_1 {α : Type} {xs : List α} : Ev.atI xs 1 = xs[1]? := rfl
theorem atI_2 {α : Type} {xs : List α} : Ev.atI xs 2 = xs[2]? := rfl
theorem atI_3 {α : Type} {xs : List α} : Ev.atI xs 3 = xs[3]? := rfl
theorem atI_4 {α : Type} {xs : List α} : Ev.atI xs 4 = xs[4]? := rfl
theorem atI_ok {α : Type} {xs : List α} {i : Int} (h0 : 0 ≤ i) (h : i < xs.length) : ∃ x, Ev.atI xs i = some x ∧ x ∈ xs := by
  unfold Ev.atI
  rw [if_pos h0]
  have hl : i.toNat < xs.length := by omega
  exact ⟨xs[i.toNat], List.getElem?_eq_getElem hl, List.getElem_mem hl⟩
theorem add_rl {n : Nat} {b : List D} : binE S .add (.ref n) (.lst b) = match S[n]? with | some (.lst a) => if a.length + b.length ≤ 16777216 then some (.lst (a ++ b)) else none | _ => none := by
  show (match Ev.mutOf S (.ref n), some b with | some x, some y => if lenOk (x.length + y.length) then some (D.lst (x ++ y)) else none | _, _ => none) = _
  rw [mutOf_r]
  cases S[n]? with
  | none => rfl
  | some o => cases o <;> first | rfl | (simp [lenOk])
theorem add_lr {n : Nat} {b : List D} : binE S .add (.lst b) (.ref n) = match S[n]? with | some (.lst a) => if b.length + a.length ≤ 16777216 then some (.lst (b ++ a)) else none | _ => none := by
  show (match some b, Ev.mutOf S (.ref n) with | some x, some y => if lenOk (x.length + y.length) then some (D.lst (x ++ y)) else none | _, _ => none) = _
  rw [mutOf_r]
  cases S[n]? with
  | none => rfl
  | some o => cases o <;> first | rfl | (simp [lenOk])
theorem add_ll {a b : List D} : binE S .add (.lst a) (.lst b) = if a.length + b.length ≤ 16777216 then some (.lst (a ++ b)) else none := by
  show (if lenOk (a.length + b.length) then some (D.lst (a ++ b)) else none) = _
  simp [lenOk]
theorem x_set {i : Nat} {e : PE} : execS g (.set i e) ρ S = bndS (evalE g e ρ S) fun d S => some (.nx (ρ.set i (some (settle d S).1)), (settle d S).2) := by rw [execS]
theorem x_expr {e : PE} : execS g (.expr e) ρ S = bndS (evalE g e ρ S) fun _ S => some (.nx ρ, S) := by rw [execS]
theorem x_ret {e : PE} : execS g (.ret e) ρ S = bndS (evalE g e ρ S) fun d S => some (.ret d, S) := by rw [execS]
theorem x_ife {c : PE} {a b : List PS} : execS g (.ife c a b) ρ S = tests (evalE g c ρ S) (fun t S => if t then execB g a ρ S else execB g b ρ S) fun c S => some (.ex c, S) := by rw [execS]
theorem x_setI {o i v : PE} : execS g (.setI o i v) ρ S = bndS (evalE g v ρ S) fun x S => bndS (evalE g o ρ S) fun a S => bndS (evalE g i ρ S) fun k S => (setItE a k x S).map fun S => (.nx ρ, S) := by rw [execS]
theorem x_par {is : List Nat} {es : List PE} : execS g (.par is es) ρ S = bndS (evalEs g es ρ S) fun ds S => (match (setNames is (settles ds S).1 ρ).map fun ρ' => (ρ', (settles ds S).2) with | some (ρ', S) => some (.nx ρ', S) | none => none) := by rw [execS]; rfl
theorem execB_nil : execB g [] ρ S = some (.nx ρ, S) := by rw [execB]
theorem execB_cons : execB g (s :: ss) ρ S = seqS (execS g s ρ S) fun ρ S => execB g ss ρ S := by rw [execB]
theorem execB_app {A B : List PS} : execB g (A ++ B) ρ S = seqS (execB g A ρ S) fun ρ S => execB g B ρ S := by
  induction A generalizing ρ S with
  | nil => rw [List.nil_append, execB_nil, seqS_nx]
  | cons s A ih =>
    rw [List.cons_append, execB_cons, execB_cons]
    cases execS g s ρ S with
    | none => rfl
    | some q =>
      obtain ⟨fl, S'⟩ := q
      cases fl with
      | nx ρ' => rw [seqS_nx, seqS_nx]; exact ih
      | ret d => rfl
      | ex c => rfl
theorem sl_of {a lo hi : D} {ds : List D} (h : Ev.listOf S a = some ds) (hl : lo = .non ∨ ∃ i, lo = .int i) (hh : hi = .non ∨ ∃ i, hi = .int i) : ∃ i j, slE S a lo hi = some (.lst (cut ds i j)) := by
  have q : ∀ (n d : Nat) (x : D), (x = .non ∨ ∃ i, x = .int i) → ∃ k, sIx n d x = some k := fun n d x hx => by
    rcases hx with rfl | ⟨i, rfl⟩
    · exact ⟨_, rfl⟩
    · exact ⟨_, rfl⟩
  obtain ⟨i, hi'⟩ := q ds.length 0 lo hl
  obtain ⟨j, hj'⟩ := q ds.length ds.length hi hh
  refine ⟨i, j, ?_⟩
  unfold slE
  cases a <;> first | (cases h; done) | (simp only [h, hi', hj'])
theorem cut_map {α β : Type} {f : α → β} {xs : List α} {i j : Nat} : cut (xs.map f) i j = (cut xs i j).map f := by unfold cut; rw [List.map_take, List.map_drop]
theorem cut_mem {α : Type} {xs : List α} {i j : Nat} {x : α} (h : x ∈ cut xs i j) : x ∈ xs := List.mem_of_mem_drop (List.mem_of_mem_take h)
theorem go (h : execS g s ρ S = some (.nx ρ1, S1)) (h2 : execB g ss ρ1 S1 = r) : execB g (s :: ss) ρ S = r := by
  unfold execB
  rw [h, seqS_nx, h2]
theorem goR (h : execS g s ρ S = some (.ret d, S1)) : execB g (s :: ss) ρ S = some (.ret d, S1) := by
  unfold execB
  rw [h, seqS_ret]
theorem fin_go (h : execB g ss ρ S = some (.ret d, S1)) {b : Nat} : finish b (execB g ss ρ S) = leave b d S1 := by rw [h]; rfl
theorem fin_nx (h : execB g ss ρ S = some (.nx ρ1, S1)) {b : Nat} : finish b (execB g ss ρ S) = leave b .non S1 := by rw [h]; rfl
theorem for_rng1 {i : Nat} {e : PE} {body : List PS} {j : Int} {P : Nat → Env → Sto → Prop} (he : evalE g e ρ S = some (.ok (.int j) S)) (h1 : j ≤ 1000000) (h2 : -1000000 ≤ j) (hP : P 0 ρ S)
    (step : ∀ (k : Nat) ρ S, k < j.toNat → P k ρ S → ∃ ρ' S', execB g body (ρ.set i (some (.int k))) S = some (.nx ρ', S') ∧ P (k + 1) ρ' S') : ∃ ρ' S', execS g (.for_ (.nm i) .rng1 [e] body) ρ S = some (.nx ρ', S') ∧ P j.toNat ρ' S' := by
  have q := forL_rel (f := fun d ρ S => match setTg (.nm i) d ρ S with | some (ρ', S) => execB g body ρ' S | none => none) ((List.range j.toNat).map fun (k : Nat) => D.int k) P (fun k d ρ S hk p => by
    rw [List.getElem?_map] at hk
    obtain ⟨k', e1, rfl⟩ := Option.map_eq_some_iff.mp hk
    obtain ⟨l1, e2⟩ := List.getElem?_eq_some_iff.mp e1
    rw [List.getElem_range] at e2
    subst e2
    exact step k ρ S (by simpa using l1) p) ρ S hP
  obtain ⟨ρ', S', q1, q2⟩ := q
  refine ⟨ρ', S', ?_, by simpa using q2⟩
  unfold execS evalEs
  rw [he, bnd_ok]
  unfold evalEs
  rw [bnd_ok, bndS_ok, items_rng1 h1 h2]
  exact q1
/-- over plain items that no object of the store holds -/
theorem for_val {i : Nat} {e : PE} {body : List PS} {dv : D} {its : List D} {P : Nat → Env → Sto → Prop} (he : evalE g e ρ S = some (.ok dv S1)) (hi : itemsOf S1 .val [dv] = some (its, none)) (hp : pures its = true) (hP : P 0 ρ S1)
    (step : ∀ (k : Nat) d ρ S, its[k]? = some d → P k ρ S → ∃ ρ' S', execB g body (ρ.set i (some d)) S = some (.nx ρ', S') ∧ P (k + 1) ρ' S') : ∃ ρ' S', execS g (.for_ (.nm i) .val [e] body) ρ S = some (.nx ρ', S') ∧ P its.length ρ' S' := by
  have q := forL_rel (f := fun d ρ S => match setTg (.nm i) d ρ S with | some (ρ', S) => execB g body ρ' S | none => none) its P (fun k d ρ S hk p => by
    have hd : d.pure = true := by
      rw [pures_all, List.all_eq_true] at hp
      exact hp d (List.mem_of_getElem? hk)
    show ∃ ρ' S', execB g body (ρ.set i (some (settle d S).1)) (settle d S).2 = _ ∧ _
    rw [settle_pure d S hd]
    exact step k d ρ S hk p) ρ S1 hP
  obtain ⟨ρ', S', q1, q2⟩ := q
  refine ⟨ρ', S', ?_, q2⟩
  unfold execS evalEs
  rw [he, bnd_ok]
  unfold evalEs
  rw [bnd_ok, bndS_ok, hi]
  exact q1
theorem while_eq {c : Env → Sto → Option (R D)} {b : Env → Sto → Option (Fl × Sto)} : whileL c b ρ S = (match c ρ S with
  | none => none
  | some (.ex x S) => some (.ex x, S)
  | some (.ok d S) => match truth S d with
    | none => none
    | some false => some (.nx ρ, S)
    | some true => match b ρ S with
      | none => none
      | some (.ret d, S) => some (.ret d, S)
      | some (.ex x, S) => some (.ex x, S)
      | some (.nx ρ', S') => whileL c b ρ' S') := by
  (conv => lhs; rw [whileL]) <;> rfl
theorem while_rel {c : PE} {body : List PS} (P : Nat → Env → Sto → Prop) (Qf : Env → Sto → Prop)
    (step : ∀ m ρ S, P m ρ S → ∃ d S1 t, evalE g c ρ S = some (.ok d S1) ∧ truth S1 d = some t ∧ (t = true → ∃ ρ2 S2 m2, execB g body ρ S1 = some (.nx ρ2, S2) ∧ m2 < m ∧ P m2 ρ2 S2) ∧ (t = false → Qf ρ S1)) :
    ∀ m ρ S, P m ρ S → ∃ ρ' S', execS g (.while_ c body) ρ S = some (.nx ρ', S') ∧ Qf ρ' S' := by
  intro m
  induction m using Nat.strongRecOn with
  | ind m ih =>
    intro ρ S p
    obtain ⟨d, S1, t, e1, e2, h1, h2⟩ := step m ρ S p
    unfold execS
    rw [while_eq]
    simp only [e1, e2]
    cases t with
    | false => exact ⟨ρ, S1, rfl, h2 rfl⟩
    | true =>
      obtain ⟨ρ2, S2, m2, e3, hm, p2⟩ := h1 rfl
      obtain ⟨ρ', S', e4, q⟩ := ih m2 hm ρ2 S2 p2
      unfold execS at e4
      simp only [e3]
      exact ⟨ρ', S', e4, q⟩
end
end Ev
end
section
set_option Elab.async false
set_option linter.all false
set_option maxRecDepth 100000
namespace Ev
section
variable {g : G} {ρ : Env} {S : Sto}
theorem compL_f {α : Type} {f : α → D} {F : D → Sto → Option (R (Option D))} {p : α → Bool} {v : α → D} : ∀ (rs : List α), (∀ r ∈ rs, F (f r) S = some (.ok (if p r then some (v r) else none) S)) → compL none F (rs.map f) S = some ((rs.filter p).map v, S)
  | [], _ => by rw [List.map_nil, compL, guard_none]; rfl
  | r :: rs, h => by
    rw [List.map_cons, compL, guard_none, h r List.mem_cons_self, bndN_ok, compL_f rs fun x m => h x (List.mem_cons_of_mem _ m), Option.map_some]
    cases hp : p r with
    | true => simp [hp]
    | false => simp [hp]
theorem comp_f {α : Type} {f : α → D} {rs : List α} {p : α → Bool} {v : α → D} {i : Nat} {e elt : PE} {ifs : List PE} {dv : D} (he : evalE g e ρ S = some (.ok dv S)) (hi : itemsOf S .val [dv] = some (rs.map f, none)) (hp : ∀ r ∈ rs, (f r).pure = true)
    (hc : ∀ r ∈ rs, evalIfs g ifs (ρ.set i (some (f r))) S = some (.ok (p r) S)) (hv : ∀ r ∈ rs, p r = true → evalE g elt (ρ.set i (some (f r))) S = some (.ok (v r) S)) : evalE g (.comp (.nm i) .val [e] ifs elt) ρ S = some (.ok (.lst ((rs.filter p).map v)) S) := by
  rw [evalE]
  rw [evalEs, he, bnd_ok, evalEs, bnd_ok, bnd_ok, hi]
  simp only
  rw [compL_f (p := p) (v := v) rs fun r m => ?_]
  · rfl
  · show bnd (evalIfs g ifs (ρ.set i (some (settle (f r) S).1)) (settle (f r) S).2) _ = _
    rw [settle_pure _ _ (hp r m)]
    simp only
    rw [hc r m, bnd_ok]
    cases h : p r with
    | true => simp [hv r m h]
    | false => simp
theorem ifs_1 {c : PE} {b : Bool} {d : D} (h : evalE g c ρ S = some (.ok d S)) (ht : truth S d = some b) : evalIfs g [c] ρ S = some (.ok b S) := by
  rw [evalIfs, h, tests_ok, ht]
  cases b <;> simp [evalIfs]
end
section
variable {S : Sto}
theorem res_mapM {k : Nat} : ∀ ds : List D, pures ds = true → ds.mapM (res S (k + 1)) = some ds
  | [], _ => rfl
  | d :: ds, h => by
    unfold pures at h
    obtain ⟨h1, h2⟩ := Bool.and_eq_true_iff.mp h
    rw [List.mapM_cons, res_pure h1, res_mapM ds h2]; rfl
theorem res_lst {k : Nat} {ds : List D} (h : pures ds = true) : res S (k + 2) (.lst ds) = some (.lst ds) := by
  rw [res]
  rw [if_neg (by simp [D.pure])]
  simp only [res_mapM ds h, Option.map_some]
theorem res_ref {k n : Nat} {ds : List D} (hn : S[n]? = some (.lst ds)) (h : pures ds = true) : res S (k + 2) (.ref n) = some (.lst ds) := by
  rw [res]
  rw [if_neg (by simp [D.pure])]
  simp only [hn, res_mapM ds h, Option.map_some]
theorem eq_nil {n : Nat} {ds : List D} (hn : S[n]? = some (.lst ds)) (h : pures ds = true) : eqE S (.ref n) (.lst []) = some ds.isEmpty := by
  unfold eqE
  rw [res_ref hn h, res_lst (ds := []) rfl]
  have hd : min (D.lst ds).depth (D.lst []).depth ≤ 150 := by simp [D.depth, depths]
  simp only [if_pos hd]
  cases ds <;> simp [D.eqv, eqvs]
theorem eq_ts {ds : List D} {y : PySem.Str} (h : pures ds = true) : eqE S (.tup ds) (.str y) = some false := by
  rw [eq_pure (by unfold D.pure; exact h) rfl (by simp [D.depth])]
  rfl
end
mutual
def nodes : D → Nat
  | .tup ds => 1 + nodess ds
  | _ => 1
def nodess : List D → Nat
  | [] => 0
  | d :: ds => nodes d + nodess ds
end
theorem nodes_pos (d : D) : 1 ≤ nodes d := by
  cases d <;> (unfold nodes; omega)
end Ev
end
section
set_option Elab.async false
set_option linter.all false
set_option maxRecDepth 100000
namespace Ev
open PySem
/-- a type that speaks of a (so that a is left alone where it is rewritten) -/
abbrev Dep {β : Type} (_ : β) (α : Type) : Type := α
section
variable {α β : Type} {g : G} {ρ : Env} {S : Sto} {Q : D → Sto → Prop} {X : Nat → Sto → Prop} {Qn : Env → Sto → Prop}
def wpR {α : Type} (Q : α → Sto → Prop) (X : Nat → Sto → Prop) (m : Dep (Q, X) (Option (R α))) : Prop := match (m : Option (R α)) with
  | some (.ok a S) => Q a S
  | some (.ex c S) => X c S
  | none => False
def wpO {α : Type} (k : α → Prop) (o : Dep k (Option α)) : Prop := match (o : Option α) with
  | some a => k a
  | none => False
/-- a fork -/
def wpT (A B : Prop) (b : Dep (A, B) Bool) : Prop := (b = true → A) ∧ (b = false → B)
def wpE (g : G) (e : PE) (Q : D → Sto → Prop) (X : Nat → Sto → Prop) (ρ : Env) (S : Dep (g, e, Q, X, ρ) Sto) : Prop := wpR Q X (evalE g e ρ S)
def wpEs (g : G) (es : List PE) (Q : List D → Sto → Prop) (X : Nat → Sto → Prop) (ρ : Env) (S : Dep (g, es, Q, X, ρ) Sto) : Prop := wpR Q X (evalEs g es ρ S)
def wpF (Qn : Env → Sto → Prop) (Q : D → Sto → Prop) (X : Nat → Sto → Prop) (m : Dep (Qn, Q, X) (Option (Fl × Sto))) : Prop := match (m : Option (Fl × Sto)) with
  | some (.nx ρ, S) => Qn ρ S
  | some (.ret d, S) => Q d S
  | some (.ex c, S) => X c S
  | none => False
def wpB (g : G) (ss : List PS) (Qn : Env → Sto → Prop) (Q : D → Sto → Prop) (X : Nat → Sto → Prop) (ρ : Dep (g, ss, Qn, Q, X) Env) (S : Dep (g, ss, Qn, Q, X) Sto) : Prop := wpF Qn Q X (execB g ss ρ S)
def wpS (g : G) (s : PS) (Qn : Env → Sto → Prop) (Q : D → Sto → Prop) (X : Nat → Sto → Prop) (ρ : Dep (g, s, Qn, Q, X) Env) (S : Dep (g, s, Qn, Q, X) Sto) : Prop := wpF Qn Q X (execS g s ρ S)
def exD (S : Sto) : D → D → Option Sto
  | .ref n, .lst es => match S[n]? with
    | some (.lst ds) => if lenOk (ds.length + es.length) then some ((settles es S).2.set n (.lst (ds ++ (settles es S).1))) else none
    | _ => none
  | _, _ => none
def refD : D → Option D
  | .ref n => some (.ref n)
  | _ => none
def getV : Env → Nat → Option D
  | [], _ => none
  | x :: _, 0 => x
  | _ :: ρ, i + 1 => getV ρ i
theorem getV_eq : ∀ (ρ : Env) (i : Nat), getV ρ i = (match ρ[i]? with | some (some d) => some d | _ => none)
  | [], _ => rfl
  | x :: ρ, 0 => by
    show x = _
    rw [List.getElem?_cons_zero]
    cases x <;> rfl
  | _ :: ρ, i + 1 => by
    show getV ρ i = _
    rw [getV_eq ρ i, List.getElem?_cons_succ]
theorem getV_0 {x : Option D} {ρ : Env} : getV (x :: ρ) 0 = x := rfl
theorem getV_s {x : Option D} {ρ : Env} {i : Nat} : getV (x :: ρ) (i + 1) = getV ρ i := rfl
/-! ### the parts -/
theorem wpR_ok {a : α} {Q : α → Sto → Prop} : wpR Q X (some (.ok a S)) = Q a S := rfl
theorem wpR_ex {c : Nat} {Q : α → Sto → Prop} : wpR Q X (some (.ex c S)) = X c S := rfl
theorem wpR_bnd {m : Option (R α)} {f : α → Sto → Option (R β)} {Q : β → Sto → Prop} : wpR Q X (bnd m f) = wpR (fun a S => wpR Q X (f a S)) X m := by
  cases m with
  | none => rfl
  | some r => cases r <;> rfl
theorem wpR_map {o : Option α} {f : α → D} : wpR Q X (o.map fun z => R.ok (f z) S) = wpO (fun z => Q (f z) S) o := by cases o <;> rfl
theorem wpO_some {a : α} {k : α → Prop} : wpO k (some a) = k a := rfl
theorem wpO_map {o : Option α} {f : α → β} {k : β → Prop} : wpO k (o.map f) = wpO (fun a => k (f a)) o := by cases o <;> rfl
theorem wpT_true {A B : Prop} : wpT A B true = A := by simp [wpT]
theorem wpT_false {A B : Prop} : wpT A B false = B := by simp [wpT]
theorem wpT_not {b : Bool} {A B : Prop} : wpT A B (!b) = wpT B A b := by cases b <;> simp [wpT]
theorem wpT_ite {b : Bool} {A B : Prop} : (if b = true then A else B) = wpT A B b := by cases b <;> simp [wpT]
theorem wpT_pos {c : Prop} [Decidable c] {A B : Prop} (h : c) : wpT A B (decide c) = A := by rw [decide_eq_true h, wpT_true]
theorem wpT_neg {c : Prop} [Decidable c] {A B : Prop} (h : ¬ c) : wpT A B (decide c) = B := by rw [decide_eq_false h, wpT_false]
theorem wpR_tests {m : Option (R D)} {f : Bool → Sto → Option (R α)} {Q : α → Sto → Prop} : wpR Q X (tests m f fun c S => some (.ex c S)) = wpR (fun d S => wpO (fun b => wpR Q X (f b S)) (truth S d)) X m := by
  cases m with
  | none => rfl
  | some r =>
    cases r with
    | ex c S => rfl
    | ok d S =>
      show wpR Q X (match truth S d with | some b => f b S | none => none) = wpO _ (truth S d)
      cases truth S d <;> rfl
theorem wpR_match {o : Option Bool} {A B : Option (R α)} {Q : α → Sto → Prop} : wpR Q X (match o with | some true => A | some false => B | none => none) = wpO (fun b => wpT (wpR Q X A) (wpR Q X B) b) o := by
  cases o with
  | none => rfl
  | some b => cases b <;> simp [wpO, wpT]
theorem wpR_cq {m : Option (R α)} {Q Q' : α → Sto → Prop} (h : ∀ a S, Q a S = Q' a S) : wpR Q X m = wpR Q' X m := by
  have : Q = Q' := funext fun a => funext fun S => h a S
  rw [this]
theorem wpO_cq {m : Option α} {k k' : α → Prop} (h : ∀ a, k a = k' a) : wpO k m = wpO k' m := by
  have : k = k' := funext h
  rw [this]
/-! ### expressions -/
theorem wpE_var {i : Nat} : wpE g (.var i) Q X ρ S = wpO (fun d => Q d S) (getV ρ i) := by
  unfold wpE evalE
  rw [getV_eq]
  cases ρ[i]? with
  | none => rfl
  | some o => cases o <;> rfl
theorem wpE_cst {d : D} : wpE g (.cst d) Q X ρ S = Q d S := by unfold wpE evalE; rfl
theorem wpE_tup {es : List PE} : wpE g (.tup es) Q X ρ S = wpEs g es (fun ds S => Q (.tup ds) S) X ρ S := by unfold wpE evalE wpEs; rw [wpR_bnd]; rfl
theorem wpE_lst {es : List PE} : wpE g (.lst es) Q X ρ S = wpEs g es (fun ds S => Q (.lst ds) S) X ρ S := by unfold wpE evalE wpEs; rw [wpR_bnd]; rfl
theorem wpE_dct0 : wpE g .dct0 Q X ρ S = Q (.dct [] []) S := by unfold wpE evalE; rfl
theorem wpE_bin {o : Bin} {a b : PE} : wpE g (.bin o a b) Q X ρ S = wpE g a (fun x S => wpE g b (fun y S => wpO (fun z => Q z S) (binE S o x y)) X ρ S) X ρ S := by
  unfold wpE; rw [evalE, wpR_bnd]; exact wpR_cq fun x S => by rw [wpR_bnd]; exact wpR_cq fun y S => wpR_map (f := fun z => z)
theorem wpE_neg {a : PE} : wpE g (.neg a) Q X ρ S = wpE g a (fun x S => wpO (fun i => Q (.int (-i)) S) (match x with | .int i => some i | _ => none)) X ρ S := by
  unfold wpE; rw [evalE, wpR_bnd]
  congr 1; funext x S; cases x <;> rfl
theorem wpE_not {a : PE} : wpE g (.not a) Q X ρ S = wpE g a (fun x S => wpO (fun b => Q (.bl (!b)) S) (truth S x)) X ρ S := by
  unfold wpE; rw [evalE, wpR_tests]; rfl
theorem wpE_and {a b : PE} : wpE g (.and a b) Q X ρ S = wpE g a (fun x S => wpO (fun t => wpT (wpE g b Q X ρ S) (Q x S) t) (truth S x)) X ρ S := by
  unfold wpE; rw [evalE, wpR_bnd]; exact wpR_cq fun x S => wpR_match
theorem wpE_or {a b : PE} : wpE g (.or a b) Q X ρ S = wpE g a (fun x S => wpO (fun t => wpT (Q x S) (wpE g b Q X ρ S) t) (truth S x)) X ρ S := by
  unfold wpE; rw [evalE, wpR_bnd]; exact wpR_cq fun x S => wpR_match
theorem wpE_cmp {o : Cmp} {a b : PE} : wpE g (.cmp o a b) Q X ρ S = wpE g a (fun x S => wpE g b (fun y S => wpO (fun z => Q (.bl z) S) (cmpE S o x y)) X ρ S) X ρ S := by
  unfold wpE; rw [evalE, wpR_bnd]; exact wpR_cq fun x S => by rw [wpR_bnd]; exact wpR_cq fun y S => wpR_map (f := fun z => D.bl z)
theorem wpE_cmp2 {o o' : Cmp} {a b c : PE} : wpE g (.cmp2 o o' a b c) Q X ρ S = wpE g a (fun x S => wpE g b (fun y S => wpO (fun t => wpT (wpE g c (fun z S => wpO (fun u => Q (.bl u) S) (cmpE S o' y z)) X ρ S) (Q (.bl false) S) t) (cmpE S o x y)) X ρ S) X ρ S := by
  unfold wpE; rw [evalE, wpR_bnd]
  refine wpR_cq fun x S => ?_
  rw [wpR_bnd]
  refine wpR_cq fun y S => ?_
  refine Eq.trans wpR_match (wpO_cq fun t => ?_)
  rw [wpR_bnd]
  congr 1
  exact wpR_cq fun z S => wpR_map (f := fun u => D.bl u)
theorem wpE_is {n : Bool} {a : PE} {c : D} : wpE g (.is_ n a c) Q X ρ S = wpE g a (fun x S => wpO (fun b => Q (.bl b) S) (isC n c x)) X ρ S := by
  unfold wpE; rw [evalE, wpR_bnd]; exact wpR_cq fun x S => wpR_map (f := fun b => D.bl b)
theorem wpE_ife {c a b : PE} : wpE g (.ife c a b) Q X ρ S = wpE g c (fun x S => wpO (fun t => wpT (wpE g a Q X ρ S) (wpE g b Q X ρ S) t) (truth S x)) X ρ S := by
  unfold wpE; rw [evalE, wpR_tests]
  congr 1; funext d S
  congr 1; funext t
  cases t <;> simp [wpT]
theorem wpE_idx {a i : PE} : wpE g (.idx a i) Q X ρ S = wpE g a (fun x S => wpE g i (fun y S => wpO (fun z => Q z S) (idxE S x y)) X ρ S) X ρ S := by
  unfold wpE; rw [evalE, wpR_bnd]; exact wpR_cq fun x S => by rw [wpR_bnd]; exact wpR_cq fun y S => wpR_map (f := fun z => z)
theorem wpE_sl {a lo hi : PE} : wpE g (.sl a lo hi) Q X ρ S = wpE g a (fun x S => wpE g lo (fun l S => wpO (fun _ => wpE g hi (fun h S => wpO (fun z => Q z S) (slE S x l h)) X ρ S) (if isPart l then some () else none)) X ρ S) X ρ S := by
  unfold wpE; rw [evalE, wpR_bnd]
  refine wpR_cq fun x S => ?_
  rw [wpR_bnd]
  refine wpR_cq fun l S => ?_
  cases isPart l with
  | true =>
    show wpR Q X (bnd (evalE g hi ρ S) _) = wpR _ X (evalE g hi ρ S)
    rw [wpR_bnd]
    exact wpR_cq fun h S => wpR_map (f := fun z => z)
  | false => rfl
theorem wpE_call {f : Nat} {es : List PE} : wpE g (.call f es) Q X ρ S = wpEs g es (fun ds S => wpR Q X (g.F f ds S)) X ρ S := by unfold wpE wpEs; rw [evalE, wpR_bnd]
theorem wpE_blt {b : Blt} {es : List PE} : wpE g (.blt b es) Q X ρ S = wpEs g es (fun ds S => wpO (fun z => Q z S) (bltE S b ds)) X ρ S := by unfold wpE wpEs; rw [evalE, wpR_bnd]; exact wpR_cq fun x S => wpR_map (f := fun z => z)
theorem wpE_mth {m : Mth} {o : PE} {es : List PE} : wpE g (.mth m o es) Q X ρ S = wpE g o (fun x S => wpO (fun _ => wpEs g es (fun ds S => wpO (fun r => Q r.1 r.2) (mthE m x ds S)) X ρ S) (if recvOk m x S then some () else none)) X ρ S := by
  unfold wpE wpEs; rw [evalE, wpR_bnd]
  congr 1; funext x S
  cases recvOk m x S with
  | true =>
    show wpR Q X (bnd (evalEs g es ρ S) _) = wpR _ X (evalEs g es ρ S)
    rw [wpR_bnd]
    refine wpR_cq fun ds S => ?_
    cases mthE m x ds S <;> rfl
  | false => rfl
theorem wpE_isi {a : PE} {ts : List Ty} : wpE g (.isi a ts) Q X ρ S = wpE g a (fun x S => wpO (fun b => Q (.bl b) S) (isTys g.isa S x ts)) X ρ S := by
  unfold wpE; rw [evalE, wpR_bnd]; exact wpR_cq fun x S => wpR_map (f := fun b => D.bl b)
theorem wpEs_nil {Q : List D → Sto → Prop} : wpEs g [] Q X ρ S = Q [] S := by unfold wpEs; rw [evalEs]; rfl
theorem wpEs_cons {e : PE} {es : List PE} {Q : List D → Sto → Prop} : wpEs g (e :: es) Q X ρ S = wpE g e (fun d S => wpEs g es (fun ds S => Q (d :: ds) S) X ρ S) X ρ S := by
  unfold wpEs wpE; rw [evalEs, wpR_bnd]; exact wpR_cq fun d S => wpR_bnd
/-! ### statements -/
theorem wpF_bnd {m : Option (R α)} {f : α → Sto → Option (Fl × Sto)} : wpF Qn Q X (bndS m f) = wpR (fun a S => wpF Qn Q X (f a S)) X m := by
  cases m with
  | none => rfl
  | some r => cases r <;> rfl
theorem wpF_seq {m : Option (Fl × Sto)} {f : Env → Sto → Option (Fl × Sto)} : wpF Qn Q X (seqS m f) = wpF (fun ρ S => wpF Qn Q X (f ρ S)) Q X m := by
  cases m with
  | none => rfl
  | some r => obtain ⟨fl, S⟩ := r; cases fl <;> rfl
theorem wpF_tests {m : Option (R D)} {f : Bool → Sto → Option (Fl × Sto)} : wpF Qn Q X (tests m f fun c S => some (.ex c, S)) = wpR (fun d S => wpO (fun b => wpF Qn Q X (f b S)) (truth S d)) X m := by
  cases m with
  | none => rfl
  | some r =>
    cases r with
    | ex c S => rfl
    | ok d S =>
      show wpF Qn Q X (match truth S d with | some b => f b S | none => none) = wpO _ (truth S d)
      cases truth S d <;> rfl
theorem wpB_nil : wpB g [] Qn Q X ρ S = Qn ρ S := by unfold wpB; rw [execB]; rfl
theorem wpB_cons {s : PS} {ss : List PS} : wpB g (s :: ss) Qn Q X ρ S = wpS g s (fun ρ S => wpB g ss Qn Q X ρ S) Q X ρ S := by unfold wpB wpS; rw [execB, wpF_seq]
theorem wpS_set {i : Nat} {e : PE} : wpS g (.set i e) Qn Q X ρ S = wpE g e (fun d S => Qn (ρ.set i (some (settle d S).1)) (settle d S).2) X ρ S := by unfold wpS wpE; rw [execS, wpF_bnd]; rfl
theorem wpS_setT {is : List Nat} {e : PE} : wpS g (.setT is e) Qn Q X ρ S = wpE g e (fun d S => wpO (fun r => Qn r.1 r.2) (setTg (.tp is) d ρ S)) X ρ S := by
  unfold wpS wpE; rw [execS, wpF_bnd]
  congr 1; funext d S
  cases setTg (.tp is) d ρ S <;> rfl
theorem wpS_par {is : List Nat} {es : List PE} : wpS g (.par is es) Qn Q X ρ S = wpEs g es (fun ds S => wpO (fun r => Qn r (settles ds S).2) (setNames is (settles ds S).1 ρ)) X ρ S := by
  unfold wpS wpEs; rw [execS, wpF_bnd]
  congr 1; funext d S
  show wpF Qn Q X (match (setNames is (settles d S).1 ρ).map fun ρ' => (ρ', (settles d S).2) with | some (ρ', S) => some (.nx ρ', S) | none => none) = _
  cases setNames is (settles d S).1 ρ <;> rfl
theorem wpS_setI {o i v : PE} : wpS g (.setI o i v) Qn Q X ρ S = wpE g v (fun x S => wpE g o (fun a S => wpE g i (fun k S => wpO (fun S => Qn ρ S) (setItE a k x S)) X ρ S) X ρ S) X ρ S := by
  unfold wpS wpE; rw [execS, wpF_bnd]
  refine wpR_cq fun x S => ?_
  rw [wpF_bnd]
  refine wpR_cq fun a S => ?_
  rw [wpF_bnd]
  refine wpR_cq fun k S => ?_
  cases setItE a k x S <;> rfl
theorem wpS_expr {e : PE} : wpS g (.expr e) Qn Q X ρ S = wpE g e (fun _ S => Qn ρ S) X ρ S := by unfold wpS wpE; rw [execS, wpF_bnd]; rfl
theorem wpS_ret {e : PE} : wpS g (.ret e) Qn Q X ρ S = wpE g e Q X ρ S := by unfold wpS wpE; rw [execS, wpF_bnd]; rfl
theorem wpS_ife {c : PE} {a b : List PS} : wpS g (.ife c a b) Qn Q X ρ S = wpE g c (fun d S => wpO (fun t => wpT (wpB g a Qn Q X ρ S) (wpB g b Qn Q X ρ S) t) (truth S d)) X ρ S := by
  unfold wpS wpE wpB; rw [execS, wpF_tests]
  congr 1; funext d S
  congr 1; funext t
  cases t <;> simp [wpT]
theorem wpS_raise {c : Nat} : wpS g (.raise c) Qn Q X ρ S = X c S := by unfold wpS; rw [execS]; rfl
theorem wpS_try {e : PE} {c i j : Nat} : wpS g (.try_ [.expr e] c i j) Qn Q X ρ S = wpE g e (fun _ S => Qn ρ S) (fun x S => wpT (Qn ((ρ.set i (some (.exc x))).set j none) S) (X x S) (g.isa x (.cls c))) ρ S := by
  unfold wpS wpE; rw [execS, execB, execS]
  cases evalE g e ρ S with
  | none => rfl
  | some r =>
    cases r with
    | ok d S => simp only [bndS_ok, seqS_nx, execB]; rfl
    | ex x S =>
      simp only [bndS_ex, seqS_ex]
      show wpF Qn Q X (if g.isa x (.cls c) then some (.nx ((ρ.set i (some (.exc x))).set j none), S) else some (.ex x, S)) = _
      show _ = wpT (Qn ((ρ.set i (some (.exc x))).set j none) S) (X x S) (g.isa x (.cls c))
      cases g.isa x (.cls c) <;> simp [wpT, wpF]
theorem wpS_aug {i : Nat} {o : Bin} {e : PE} : wpS g (.aug i o e) Qn Q X ρ S = wpO (fun x => wpE g e (fun y S => wpO (fun z => Qn (ρ.set i (some z)) S) (match x, y with | .int a, .int b => binE S o (.int a) (.int b) | _, _ => none)) X ρ S) (getV ρ i) := by
  unfold wpS wpE; rw [execS, getV_eq]
  cases ρ[i]? with
  | none => rfl
  | some q =>
    cases q with
    | none => rfl
    | some x =>
      simp only [wpO_some]
      rw [wpF_bnd]
      congr 1; funext y S
      cases x <;> first | rfl | (cases y <;> first | rfl | (rename_i a b; simp only []; cases binE S o (.int a) (.int b) <;> rfl))
theorem wpS_augL {i : Nat} {e : PE} : wpS g (.augL i e) Qn Q X ρ S = wpO (fun x => wpE g e (fun y S => wpO (fun Z => Qn ρ Z) (exD S x y)) X ρ S) ((getV ρ i).bind refD) := by
  unfold wpS wpE; rw [execS, getV_eq]
  cases ρ[i]? with
  | none => rfl
  | some q =>
    cases q with
    | none => rfl
    | some x =>
      cases x with
      | ref n =>
        show wpF Qn Q X (bndS (evalE g e ρ S) _) = wpR _ X (evalE g e ρ S)
        rw [wpF_bnd]
        refine wpR_cq fun y S => ?_
        cases y with
        | lst es =>
          show wpF Qn Q X (match S[n]? with | some (.lst ds) => if lenOk (ds.length + es.length) then some (.nx ρ, (settles es S).2.set n (.lst (ds ++ (settles es S).1))) else none | _ => none) = wpO _ (match S[n]? with | some (.lst ds) => if lenOk (ds.length + es.length) then some ((settles es S).2.set n (.lst (ds ++ (settles es S).1))) else none | _ => none)
          cases S[n]? with
          | none => rfl
          | some d =>
            cases d with
            | lst ds =>
              show wpF Qn Q X (if lenOk (ds.length + es.length) then some (.nx ρ, (settles es S).2.set n (.lst (ds ++ (settles es S).1))) else none) = wpO _ (if lenOk (ds.length + es.length) then some ((settles es S).2.set n (.lst (ds ++ (settles es S).1))) else none)
              cases lenOk (ds.length + es.length) <;> rfl
            | _ => rfl
        | _ => rfl
      | _ => rfl
theorem wpS_tryS {i c : Nat} {e : PE} : wpS g (.tryS i e c) Qn Q X ρ S = wpE g e (fun d S => Qn (ρ.set i (some (settle d S).1)) (settle d S).2) (fun x S => wpT False (X x S) (g.isa x (.cls c))) ρ S := by
  unfold wpS wpE; rw [execS]
  cases evalE g e ρ S with
  | none => rfl
  | some r =>
    cases r with
    | ok d S => rfl
    | ex x S =>
      show wpF Qn Q X (if g.isa x (.cls c) then none else some (.ex x, S)) = wpT False (X x S) (g.isa x (.cls c))
      cases g.isa x (.cls c) <;> simp [wpT, wpF]
/-! ### consequence -/
theorem wpR_mono {m : Option (R α)} {Q Q' : α → Sto → Prop} {X X' : Nat → Sto → Prop} (h : wpR Q X m) (q : ∀ a S, Q a S → Q' a S) (x : ∀ c S, X c S → X' c S) : wpR Q' X' m := by
  match m, h with
  | some (.ok a S), h => exact q a S h
  | some (.ex c S), h => exact x c S h
theorem wpF_mono {m : Option (Fl × Sto)} {Qn Qn' : Env → Sto → Prop} {Q Q' : D → Sto → Prop} {X X' : Nat → Sto → Prop} (h : wpF Qn Q X m) (n : ∀ ρ S, Qn ρ S → Qn' ρ S) (q : ∀ a S, Q a S → Q' a S) (x : ∀ c S, X c S → X' c S) : wpF Qn' Q' X' m := by
  match m, h with
  | some (.nx ρ, S), h => exact n ρ S h
  | some (.ret a, S), h => exact q a S h
  | some (.ex c, S), h => exact x c S h
theorem wpB_mono {ss : List PS} {Qn Qn' : Env → Sto → Prop} {Q Q' : D → Sto → Prop} {X X' : Nat → Sto → Prop} (h : wpB g ss Qn Q X ρ S) (n : ∀ ρ S, Qn ρ S → Qn' ρ S) (q : ∀ a S, Q a S → Q' a S) (x : ∀ c S, X c S → X' c S) : wpB g ss Qn' Q' X' ρ S := wpF_mono h n q x
theorem wpE_mono {e : PE} {Q Q' : D → Sto → Prop} {X X' : Nat → Sto → Prop} (h : wpE g e Q X ρ S) (q : ∀ a S, Q a S → Q' a S) (x : ∀ c S, X c S → X' c S) : wpE g e Q' X' ρ S := wpR_mono h q x
theorem wpR_eq {m : Option (R α)} {a : α} (h : m = some (.ok a S)) {Q : α → Sto → Prop} (q : Q a S) : wpR Q X m := by rw [h]; exact q
theorem wpR_out {m : Option (R α)} {Q : α → Sto → Prop} (h : wpR Q (fun _ _ => False) m) : ∃ a S, m = some (.ok a S) ∧ Q a S := by
  match m, h with
  | some (.ok a S), h => exact ⟨a, S, rfl, h⟩
  | some (.ex _ _), h => exact h.elim
/-- the one end -/
theorem wpR_is {m : Option (R α)} {a : α} (h : wpR (fun a' S' => a' = a ∧ S' = S) (fun _ _ => False) m) : m = some (.ok a S) := by
  obtain ⟨a', S', e, rfl, rfl⟩ := wpR_out h
  exact e
theorem wpR_isX {m : Option (R α)} {c : Nat} (h : wpR (fun _ _ => False) (fun c' S' => c' = c ∧ S' = S) m) : m = some (.ex c S) := by
  match m, h with
  | some (.ok _ _), h => exact h.elim
  | some (.ex c' S'), h => obtain ⟨rfl, rfl⟩ := h; rfl
/-! ### calls -/
theorem wp_call {fns : List Fn} {isa : Nat → Ty → Bool} {n f : Nat} {ds : List D} {np ns : Nat} {body : List PS} (hf : fns[f]? = some ⟨np, ns, body⟩) (hl : ds.length = np)
    (h : wpB ⟨callN fns isa n, isa⟩ body (fun _ S' => wpR Q X (leave S.length .non S')) (fun d S' => wpR Q X (leave S.length d S')) (fun c S' => X c (if closed S.length S' then S'.take S.length else S')) (startE ns (settles ds S).1) (settles ds S).2) : wpR Q X (callN fns isa (n + 1) f ds S) := by
  rw [call_eq hf hl]
  unfold wpB at h
  match execB ⟨callN fns isa n, isa⟩ body (startE ns (settles ds S).1) (settles ds S).2, h with
  | some (.nx _, _), h => exact h
  | some (.ret _, _), h => exact h
  | some (.ex _, _), h => exact h
theorem takeX {l : Sto} (hc : Cl S) : (if closed S.length (S ++ l) = true then (S ++ l).take S.length else S ++ l) = S := by rw [if_pos (closed_of hc), List.take_left]
theorem takeX0 (hc : Cl S) : (if closed S.length S = true then S.take S.length else S) = S := by
  have := takeX (l := []) hc
  simpa using this
end
theorem settle_int {i : Int} {S : Sto} : settle (.int i) S = (.int i, S) := rfl
theorem settle_str {i : Str} {S : Sto} : settle (.str i) S = (.str i, S) := rfl
theorem settle_bl {i : Bool} {S : Sto} : settle (.bl i) S = (.bl i, S) := rfl
theorem settle_non {S : Sto} : settle .non S = (.non, S) := rfl
theorem settle_ref {i : Nat} {S : Sto} : settle (.ref i) S = (.ref i, S) := rfl
theorem settle_fz {i : List D} {S : Sto} : settle (.fz i) S = (.fz i, S) := rfl
theorem settle_exc {i : Nat} {S : Sto} : settle (.exc i) S = (.exc i, S) := rfl
theorem settle_tup {ds : List D} {S : Sto} : settle (.tup ds) S = (.tup (settles ds S).1, (settles ds S).2) := by rw [settle]
theorem settle_lst {ds : List D} {S : Sto} : settle (.lst ds) S = (.ref (settles ds S).2.length, (settles ds S).2 ++ [.lst (settles ds S).1]) := by rw [settle]
theorem settle_dct {ks ds : List D} {S : Sto} : settle (.dct ks ds) S = (.ref (settles ds S).2.length, (settles ds S).2 ++ [.dct ks (settles ds S).1]) := by rw [settle]
theorem settles_nil {S : Sto} : settles [] S = ([], S) := by rw [settles]
theorem settles_cons {d : D} {ds : List D} {S : Sto} : settles (d :: ds) S = ((settle d S).1 :: (settles ds (settle d S).2).1, (settles ds (settle d S).2).2) := by rw [settles]
end Ev
end
section
set_option Elab.async false
set_option linter.all false
set_option maxRecDepth 100000
namespace Ev
open PySem
mutual
theorem settle_settled : ∀ (d : D) (S : Sto), d.settled = true → settle d S = (d, S)
  | .non, _, _ => rfl
  | .bl _, _, _ => rfl
  | .int _, _, _ => rfl
  | .str _, _, _ => rfl
  | .fz _, _, _ => rfl
  | .ref _, _, _ => rfl
  | .exc _, _, _ => rfl
  | .tup ds, S, h => by
    unfold D.settled at h
    unfold settle
    rw [settles_settled ds S h]
  | .lst _, _, h => by cases h
  | .dct _ _, _, h => by cases h
  | .nd _ _, _, h => by cases h
theorem settles_settled : ∀ (ds : List D) (S : Sto), settleds ds = true → settles ds S = (ds, S)
  | [], _, _ => rfl
  | d :: ds, S, h => by
    unfold settleds at h
    obtain ⟨h1, h2⟩ := Bool.and_eq_true_iff.mp h
    unfold settles
    rw [settle_settled d S h1]
    simp only
    rw [settles_settled ds S h2]
end
mutual
theorem pure_settled : ∀ d : D, d.pure = true → d.settled = true
  | .non, _ => rfl
  | .bl _, _ => rfl
  | .int _, _ => rfl
  | .str _, _ => rfl
  | .tup ds, h => by unfold D.pure at h; unfold D.settled; exact pures_settled ds h
  | .lst _, h => by cases h
  | .dct _ _, h => by cases h
  | .nd _ _, h => by cases h
  | .fz _, h => by cases h
  | .ref _, h => by cases h
  | .exc _, h => by cases h
theorem pures_settled : ∀ ds : List D, pures ds = true → settleds ds = true
  | [], _ => rfl
  | d :: ds, h => by
    unfold pures at h
    obtain ⟨h1, h2⟩ := Bool.and_eq_true_iff.mp h
    unfold settleds
    rw [pure_settled d h1, pures_settled ds h2]; rfl
end
theorem settleds_all : ∀ ds : List D, settleds ds = ds.all D.settled
  | [] => rfl
  | d :: ds => by unfold settleds; rw [List.all_cons, settleds_all ds]
theorem settleds_mem {ds : List D} (h : settleds ds = true) {d : D} (m : d ∈ ds) : d.settled = true := by
  rw [settleds_all, List.all_eq_true] at h; exact h d m
theorem pures_mem {ds : List D} (h : pures ds = true) {d : D} (m : d ∈ ds) : d.pure = true := by
  rw [pures_all, List.all_eq_true] at h; exact h d m
theorem pures_of {ds : List D} (h : ∀ d ∈ ds, d.pure = true) : pures ds = true := by
  rw [pures_all, List.all_eq_true]; exact h
theorem pure_tup {ds : List D} : (D.tup ds).pure = pures ds := by rw [D.pure]
section
variable {α : Type} {g : G} {ρ : Env} {S : Sto} {Q : D → Sto → Prop} {X : Nat → Sto → Prop} {Qn : Env → Sto → Prop}
theorem guard_st {β : Type} {lk : Option (Nat × List D)} {x : Option β} (h : stays lk S) : guardS lk S x = x := by unfold guardS; exact if_pos h
theorem wp_forL {lk : Option (Nat × List D)} {f : D → Env → Sto → Option (Fl × Sto)} : ∀ (its : List D) (P : Nat → Env → Sto → Prop), (∀ k ρ S, P k ρ S → stays lk S) → (∀ k d ρ S, its[k]? = some d → P k ρ S → wpF (fun ρ S => P (k + 1) ρ S) Q X (f d ρ S)) → (∀ ρ S, P its.length ρ S → Qn ρ S) → ∀ ρ S, P 0 ρ S → wpF Qn Q X (forL lk f its ρ S)
  | [], P, hk, h, fin, ρ, S, p => by
    rw [forL, guard_st (hk _ _ _ p)]
    exact fin ρ S p
  | d :: its, P, hk, h, fin, ρ, S, p => by
    rw [forL, guard_st (hk _ _ _ p), wpF_seq]
    exact wpF_mono (h 0 d ρ S rfl p) (fun ρ1 S1 p1 => wp_forL its (fun k => P (k + 1)) (fun k ρ S p => hk _ _ _ p) (fun k d ρ S hk => h (k + 1) d ρ S (by simpa using hk)) fin ρ1 S1 p1) (fun _ _ z => z) fun _ _ z => z
/-- for x in .. : P k is the state ahead of the k-th item -/
structure ForOk (g : G) (i : Nat) (k : ItK) (body : List PS) (Qn : Env → Sto → Prop) (Q : D → Sto → Prop) (X : Nat → Sto → Prop) (P : Nat → Env → Sto → Prop) (ρ : Env) (ds : List D) (S1 : Dep (g, i, k, body, Qn, Q, X, P, ρ) Sto) : Prop where
  ok : ∃ its lk, itemsOf S1 k ds = some (its, lk) ∧ settleds its = true ∧ P 0 ρ S1 ∧ (∀ k ρ S, P k ρ S → stays lk S) ∧ (∀ k d ρ S, its[k]? = some d → P k ρ S → wpB g body (fun ρ S => P (k + 1) ρ S) Q X (ρ.set i (some d)) S) ∧ ∀ ρ S, P its.length ρ S → Qn ρ S
theorem wp_for (P : Nat → Env → Sto → Prop) {i : Nat} {k : ItK} {es : List PE} {body : List PS} (h : wpEs g es (fun ds S1 => ForOk g i k body Qn Q X P ρ ds S1) X ρ S) :
    wpS g (.for_ (.nm i) k es body) Qn Q X ρ S := by
  unfold wpS
  rw [execS, wpF_bnd]
  refine wpR_mono h (fun ds S1 ⟨its, lk, e, hs, h0, hk, step, fin⟩ => ?_) fun _ _ z => z
  rw [e]
  refine wp_forL its P hk (fun k d ρ S hd p => ?_) fin ρ S1 h0
  show wpF _ Q X (execB g body (ρ.set i (some (settle d S).1)) (settle d S).2)
  rw [settle_settled d S (settleds_mem hs (List.mem_of_getElem? hd))]
  exact step k d ρ S hd p
theorem wp_compL {lk : Option (Nat × List D)} {f : D → Sto → Option (R (Option D))} : ∀ (its acc : List D) (P : Nat → List D → Sto → Prop), (∀ k vs S, P k vs S → stays lk S) → (∀ k d vs S, its[k]? = some d → P k vs S → wpR (fun o S => P (k + 1) (vs ++ o.toList) S) (fun _ _ => False) (f d S)) → ∀ S, P 0 acc S → wpO (fun r => P its.length (acc ++ r.1) r.2) (compL lk f its S)
  | [], acc, P, hk, h, S, p => by
    rw [compL, guard_st (hk _ _ _ p)]
    show P 0 (acc ++ []) S
    rw [List.append_nil]; exact p
  | d :: its, acc, P, hk, h, S, p => by
    rw [compL, guard_st (hk _ _ _ p)]
    have h1 := h 0 d acc S rfl p
    cases e : f d S with
    | none => rw [e] at h1; exact h1
    | some r0 =>
      cases r0 with
      | ex c S1 => rw [e] at h1; exact h1.elim
      | ok o S1 =>
        rw [e] at h1
        rw [bndN_ok, wpO_map]
        have := wp_compL its (acc ++ o.toList) (fun k => P (k + 1)) (fun k vs S p => hk _ _ _ p) (fun k d vs S hk => h (k + 1) d vs S (by simpa using hk)) S1 h1
        cases hq : compL lk f its S1 with
        | none => rw [hq] at this; exact this
        | some r =>
          rw [hq] at this
          have this' : P (its.length + 1) (acc ++ o.toList ++ r.1) r.2 := this
          cases o with
          | none =>
            show P (its.length + 1) (acc ++ r.1) r.2
            simpa using this'
          | some v =>
            show P (its.length + 1) (acc ++ (v :: r.1)) r.2
            simpa using this'
def wpIfs (g : G) (es : List PE) (Q : Bool → Sto → Prop) (ρ : Dep (g, es, Q) Env) (S : Dep (g, es, Q) Sto) : Prop := wpR Q (fun _ _ => False) (evalIfs g es ρ S)
theorem wpIfs_nil {Q : Bool → Sto → Prop} : wpIfs g [] Q ρ S = Q true S := by unfold wpIfs; rw [evalIfs]; rfl
theorem wpIfs_one {c : PE} {Q : Bool → Sto → Prop} : wpIfs g [c] Q ρ S = wpE g c (fun d S => wpO (fun b => Q b S) (truth S d)) (fun _ _ => False) ρ S := by
  unfold wpIfs wpE
  rw [evalIfs, wpR_tests]
  refine wpR_cq fun d S => wpO_cq fun b => ?_
  cases b <;> simp [evalIfs, wpR]
/-- [elt for x in .. if ..]: P k vs is the state ahead of the k-th item -/
structure CompOk (g : G) (i : Nat) (k : ItK) (ifs : List PE) (elt : PE) (Q : D → Sto → Prop) (P : Nat → List D → Sto → Prop) (ρ : Env) (ds : List D) (S1 : Dep (g, i, k, ifs, elt, Q, P, ρ) Sto) : Prop where
  ok : ∃ its lk, itemsOf S1 k ds = some (its, lk) ∧ settleds its = true ∧ P 0 [] S1 ∧ (∀ k vs S, P k vs S → stays lk S) ∧
      (∀ k d vs S, its[k]? = some d → P k vs S → wpIfs g ifs (fun b S => wpT (wpE g elt (fun v S => P (k + 1) (vs ++ [v]) S) (fun _ _ => False) (ρ.set i (some d)) S) (P (k + 1) vs S) b) (ρ.set i (some d)) S) ∧ ∀ vs S, P its.length vs S → Q (.lst vs) S
theorem wp_comp (P : Nat → List D → Sto → Prop) {i : Nat} {k : ItK} {es ifs : List PE} {elt : PE}
    (h : wpEs g es (fun ds S1 => CompOk g i k ifs elt Q P ρ ds S1) X ρ S) : wpE g (.comp (.nm i) k es ifs elt) Q X ρ S := by
  unfold wpE
  rw [evalE, wpR_bnd]
  refine wpR_mono h (fun ds S1 ⟨its, lk, e, hs, h0, hk, step, fin⟩ => ?_) fun _ _ z => z
  rw [e]
  simp only
  have := wp_compL (f := fun d S => match setTg (.nm i) d ρ S with
        | some (ρ', S) => bnd (evalIfs g ifs ρ' S) fun b S => if b then bnd (evalE g elt ρ' S) fun x S => some (.ok (some x) S) else some (.ok none S)
        | none => none) its [] P hk (fun k d vs S hd p => by
    show wpR _ _ (bnd (evalIfs g ifs (ρ.set i (some (settle d S).1)) (settle d S).2) _)
    rw [settle_settled d S (settleds_mem hs (List.mem_of_getElem? hd)), wpR_bnd]
    refine wpR_mono (step k d vs S hd p) (fun b S2 q => ?_) fun _ _ z => z
    cases b with
    | false =>
      rw [wpT_false] at q
      show P (k + 1) (vs ++ []) S2
      rw [List.append_nil]; exact q
    | true =>
      rw [wpT_true] at q
      show wpR _ _ (bnd (evalE g elt (ρ.set i (some d)) S2) _)
      rw [wpR_bnd]
      exact q) S1 h0
  match hq : compL lk (fun d S => match setTg (.nm i) d ρ S with
        | some (ρ', S) => bnd (evalIfs g ifs ρ' S) fun b S => if b then bnd (evalE g elt ρ' S) fun x S => some (.ok (some x) S) else some (.ok none S)
        | none => none) its S1, this with
  | some r, this => exact fin _ _ this
theorem wp_while (P : Nat → Env → Sto → Prop) {c : PE} {body : List PS}
    (step : ∀ m ρ S, P m ρ S → wpE g c (fun d S1 => wpO (fun t => wpT (wpB g body (fun ρ2 S2 => ∃ m2, m2 < m ∧ P m2 ρ2 S2) Q X ρ S1) (Qn ρ S1) t) (truth S1 d)) X ρ S) :
    ∀ m ρ S, P m ρ S → wpS g (.while_ c body) Qn Q X ρ S := by
  intro m
  induction m using Nat.strongRecOn with
  | ind m ih =>
    intro ρ S p
    have h := step m ρ S p
    unfold wpS
    rw [execS, while_eq]
    unfold wpE at h
    cases he : evalE g c ρ S with
    | none => rw [he] at h; exact h.elim
    | some r0 =>
      rw [he] at h
      cases r0 with
      | ex x S1 => exact h
      | ok d S1 =>
        have h' : wpO (fun t => wpT (wpB g body (fun ρ2 S2 => ∃ m2, m2 < m ∧ P m2 ρ2 S2) Q X ρ S1) (Qn ρ S1) t) (truth S1 d) := h
        cases ht : truth S1 d with
        | none => rw [ht] at h'; exact h'.elim
        | some t =>
          rw [ht, wpO_some] at h'
          cases t with
          | false =>
            simp only [ht]
            exact h'.2 rfl
          | true =>
            simp only [ht]
            have h2 := h'.1 rfl
            unfold wpB at h2
            cases hb : execB g body ρ S1 with
            | none => rw [hb] at h2; exact h2.elim
            | some q =>
              obtain ⟨fl, S2⟩ := q
              rw [hb] at h2
              cases fl with
              | ret d2 => exact h2
              | ex x => exact h2
              | nx ρ2 =>
                obtain ⟨m2, hm, p2⟩ := h2
                have := ih m2 hm ρ2 S2 p2
                unfold wpS at this
                rw [execS] at this
                exact this
end
theorem stays_none {S : Sto} : stays none S := trivial
end Ev
end
section
set_option Elab.async false
set_option linter.all false
set_option maxRecDepth 100000
namespace Ev
open PySem
section
variable {isa : Nat → Ty → Bool} {S : Sto} {A B : Prop}
theorem isTys_nil {d : D} : isTys isa S d [] = some false := rfl
theorem isTys_c {d : D} {t : Ty} {ts : List Ty} : isTys isa S d (t :: ts) = (isTy isa S t d).bind fun b => if b = true then some true else isTys isa S d ts := by
  conv => lhs; unfold isTys
  cases isTy isa S t d with
  | none => rfl
  | some b => cases b <;> rfl
theorem isTy_exv {c : Nat} : isTy isa S .valueError (.exc c) = some (isa c .valueError) := rfl
theorem isTy_exc {c k : Nat} : isTy isa S (.cls k) (.exc c) = some (isa c (.cls k)) := rfl
theorem isTy_non_int : isTy isa S .int .non = some false := rfl
theorem isTy_non_str : isTy isa S .str .non = some false := rfl
theorem isTy_non_tuple : isTy isa S .tuple .non = some false := rfl
theorem isTy_non_list : isTy isa S .list .non = some false := rfl
theorem isTy_non_dict : isTy isa S .dict .non = some false := rfl
theorem isTy_non_bool : isTy isa S .bool .non = some false := rfl
theorem isTy_bl_int {x : Bool} : isTy isa S .int (.bl x) = some true := rfl
theorem isTy_bl_str {x : Bool} : isTy isa S .str (.bl x) = some false := rfl
theorem isTy_bl_tuple {x : Bool} : isTy isa S .tuple (.bl x) = some false := rfl
theorem isTy_bl_list {x : Bool} : isTy isa S .list (.bl x) = some false := rfl
theorem isTy_bl_dict {x : Bool} : isTy isa S .dict (.bl x) = some false := rfl
theorem isTy_bl_bool {x : Bool} : isTy isa S .bool (.bl x) = some true := rfl
theorem isTy_int_int {x : Int} : isTy isa S .int (.int x) = some true := rfl
theorem isTy_int_str {x : Int} : isTy isa S .str (.int x) = some false := rfl
theorem isTy_int_tuple {x : Int} : isTy isa S .tuple (.int x) = some false := rfl
theorem isTy_int_list {x : Int} : isTy isa S .list (.int x) = some false := rfl
theorem isTy_int_dict {x : Int} : isTy isa S .dict (.int x) = some false := rfl
theorem isTy_int_bool {x : Int} : isTy isa S .bool (.int x) = some false := rfl
theorem isTy_str_int {x : Str} : isTy isa S .int (.str x) = some false := rfl
theorem isTy_str_str {x : Str} : isTy isa S .str (.str x) = some true := rfl
theorem isTy_str_tuple {x : Str} : isTy isa S .tuple (.str x) = some false := rfl
theorem isTy_str_list {x : Str} : isTy isa S .list (.str x) = some false := rfl
theorem isTy_str_dict {x : Str} : isTy isa S .dict (.str x) = some false := rfl
theorem isTy_str_bool {x : Str} : isTy isa S .bool (.str x) = some false := rfl
theorem isTy_tup_int {x : List D} : isTy isa S .int (.tup x) = some false := rfl
theorem isTy_tup_str {x : List D} : isTy isa S .str (.tup x) = some false := rfl
theorem isTy_tup_tuple {x : List D} : isTy isa S .tuple (.tup x) = some true := rfl
theorem isTy_tup_list {x : List D} : isTy isa S .list (.tup x) = some false := rfl
theorem isTy_tup_dict {x : List D} : isTy isa S .dict (.tup x) = some false := rfl
theorem isTy_tup_bool {x : List D} : isTy isa S .bool (.tup x) = some false := rfl
theorem isTy_lst_int {x : List D} : isTy isa S .int (.lst x) = some false := rfl
theorem isTy_lst_str {x : List D} : isTy isa S .str (.lst x) = some false := rfl
theorem isTy_lst_tuple {x : List D} : isTy isa S .tuple (.lst x) = some false := rfl
theorem isTy_lst_list {x : List D} : isTy isa S .list (.lst x) = some true := rfl
theorem isTy_lst_dict {x : List D} : isTy isa S .dict (.lst x) = some false := rfl
theorem isTy_lst_bool {x : List D} : isTy isa S .bool (.lst x) = some false := rfl
theorem isTy_fz_int {x : List D} : isTy isa S .int (.fz x) = some false := rfl
theorem isTy_fz_str {x : List D} : isTy isa S .str (.fz x) = some false := rfl
theorem isTy_fz_tuple {x : List D} : isTy isa S .tuple (.fz x) = some false := rfl
theorem isTy_fz_list {x : List D} : isTy isa S .list (.fz x) = some true := rfl
theorem isTy_fz_dict {x : List D} : isTy isa S .dict (.fz x) = some false := rfl
theorem isTy_fz_bool {x : List D} : isTy isa S .bool (.fz x) = some false := rfl
theorem isTy_dct_int {x y : List D} : isTy isa S .int (.dct x y) = some false := rfl
theorem isTy_dct_str {x y : List D} : isTy isa S .str (.dct x y) = some false := rfl
theorem isTy_dct_tuple {x y : List D} : isTy isa S .tuple (.dct x y) = some false := rfl
theorem isTy_dct_list {x y : List D} : isTy isa S .list (.dct x y) = some false := rfl
theorem isTy_dct_dict {x y : List D} : isTy isa S .dict (.dct x y) = some true := rfl
theorem isTy_dct_bool {x y : List D} : isTy isa S .bool (.dct x y) = some false := rfl
theorem isTy_rl_int {n : Nat} {x : List D} (h : S[n]? = some (.lst x)) : isTy isa S .int (.ref n) = some false := by
  simp only [isTy, vtOf, h]; rfl
theorem isTy_rl_str {n : Nat} {x : List D} (h : S[n]? = some (.lst x)) : isTy isa S .str (.ref n) = some false := by
  simp only [isTy, vtOf, h]; rfl
theorem isTy_rl_tuple {n : Nat} {x : List D} (h : S[n]? = some (.lst x)) : isTy isa S .tuple (.ref n) = some false := by
  simp only [isTy, vtOf, h]; rfl
theorem isTy_rl_list {n : Nat} {x : List D} (h : S[n]? = some (.lst x)) : isTy isa S .list (.ref n) = some true := by
  simp only [isTy, vtOf, h]; rfl
theorem isTy_rl_dict {n : Nat} {x : List D} (h : S[n]? = some (.lst x)) : isTy isa S .dict (.ref n) = some false := by
  simp only [isTy, vtOf, h]; rfl
theorem isTy_rl_bool {n : Nat} {x : List D} (h : S[n]? = some (.lst x)) : isTy isa S .bool (.ref n) = some false := by
  simp only [isTy, vtOf, h]; rfl
theorem isC_b_non {ng b : Bool} : isC ng (.bl b) .non = some ng := rfl
theorem isC_n_bl {ng : Bool} {x : Bool} : isC ng .non (.bl x) = some ng := rfl
theorem isC_n_int {ng : Bool} {x : Int} : isC ng .non (.int x) = some ng := rfl
theorem isC_b_int {ng b : Bool} {x : Int} : isC ng (.bl b) (.int x) = some ng := rfl
theorem isC_n_str {ng : Bool} {x : Str} : isC ng .non (.str x) = some ng := rfl
theorem isC_b_str {ng b : Bool} {x : Str} : isC ng (.bl b) (.str x) = some ng := rfl
theorem isC_n_tup {ng : Bool} {x : List D} : isC ng .non (.tup x) = some ng := rfl
theorem isC_b_tup {ng b : Bool} {x : List D} : isC ng (.bl b) (.tup x) = some ng := rfl
theorem isC_n_lst {ng : Bool} {x : List D} : isC ng .non (.lst x) = some ng := rfl
theorem isC_b_lst {ng b : Bool} {x : List D} : isC ng (.bl b) (.lst x) = some ng := rfl
theorem isC_n_fz {ng : Bool} {x : List D} : isC ng .non (.fz x) = some ng := rfl
theorem isC_b_fz {ng b : Bool} {x : List D} : isC ng (.bl b) (.fz x) = some ng := rfl
theorem isC_n_dct {ng : Bool} {x y : List D} : isC ng .non (.dct x y) = some ng := rfl
theorem isC_b_dct {ng b : Bool} {x y : List D} : isC ng (.bl b) (.dct x y) = some ng := rfl
theorem isC_n_ref {ng : Bool} {x : Nat} : isC ng .non (.ref x) = some ng := rfl
theorem isC_b_ref {ng b : Bool} {x : Nat} : isC ng (.bl b) (.ref x) = some ng := rfl
theorem isC_n_exc {ng : Bool} {x : Nat} : isC ng .non (.exc x) = some ng := rfl
theorem isC_b_exc {ng b : Bool} {x : Nat} : isC ng (.bl b) (.exc x) = some ng := rfl
theorem isC_n_non {ng : Bool} : isC ng .non .non = some (!ng) := rfl
theorem isC_true_true_true : isC true (.bl true) (.bl true) = some false := rfl
theorem isC_true_true_false : isC true (.bl true) (.bl false) = some true := rfl
theorem isC_true_false_true : isC true (.bl false) (.bl true) = some true := rfl
theorem isC_true_false_false : isC true (.bl false) (.bl false) = some false := rfl
theorem isC_false_true_true : isC false (.bl true) (.bl true) = some true := rfl
theorem isC_false_true_false : isC false (.bl true) (.bl false) = some false := rfl
theorem isC_false_false_true : isC false (.bl false) (.bl true) = some false := rfl
theorem isC_false_false_false : isC false (.bl false) (.bl false) = some true := rfl
theorem mdl {i j : Int} (h : 0 < j) : binE S .mod (.int i) (.int j) = some (.int (i.fmod j)) := bin_mod (by omega)
theorem fdl {i j : Int} (h : 0 < j) (h1 : j < 18446744073709551616) : binE S .fdiv (.int i) (.int j) = some (.int (i.fdiv j)) := bin_fdiv (by
  have h2 : j.natAbs < 2 ^ 64 := by omega
  have h3 : j.natAbs ≠ 0 := by omega
  have h4 := (Nat.log2_lt h3).mpr h2
  unfold divOk
  rw [decide_eq_true (show j ≠ 0 by omega), decide_eq_true (show j.natAbs.log2 < 9000 by omega)]; rfl)
theorem min2 {i j : Int} : bltE S .min2 [.int i, .int j] = some (.int (if j < i then j else i)) := rfl
theorem max2 {i j : Int} : bltE S .max2 [.int i, .int j] = some (.int (if j > i then j else i)) := rfl
theorem pu_non : D.non.pure = true := rfl
theorem pu_bl {x : Bool} : (D.bl x).pure = true := rfl
theorem pu_int {x : Int} : (D.int x).pure = true := rfl
theorem pu_str {x : Str} : (D.str x).pure = true := rfl
theorem pu_nil : pures [] = true := rfl
theorem pu_cons {d : D} {ds : List D} : pures (d :: ds) = (d.pure && pures ds) := by rw [pures]
theorem wpT_i {b : Bool} (h1 : b = true → A) (h2 : b = false → B) : wpT A B b := ⟨h1, h2⟩
theorem wpT_d {c : Prop} [Decidable c] (h1 : c → A) (h2 : ¬ c → B) : wpT A B (decide c) := ⟨fun h => h1 (of_decide_eq_true h), fun h => h2 (of_decide_eq_false h)⟩
end
end Ev
end
section
set_option Elab.async false
set_option linter.all false
set_option maxRecDepth 100000
set_option maxHeartbeats 2000000
namespace Ev
variable {n : Nat} {S : Sto}
theorem in_tup {a : D} {ds : List D} (ha : a.pure = true) (hd : a.depth ≤ 150) (hp : pures ds = true) : inE S a (.tup ds) = some (ds.any fun z => z.eqv a) := by
  show inL S a ds = _
  unfold inL resL
  rw [res_pure ha, if_pos hp]
  have : min (depths ds) a.depth ≤ 150 := by omega
  simp only [if_pos this]
theorem in_str {x y : PySem.Str} : inE S (.str x) (.str y) = some (inStr x y) := rfl
theorem items_tup {ds : List D} : itemsOf S .val [.tup ds] = some (ds, none) := rfl
theorem items_lst {ds : List D} : itemsOf S .val [.lst ds] = some (ds, none) := rfl
theorem items_fz {ds : List D} : itemsOf S .val [.fz ds] = some (ds, none) := rfl
theorem items_str {x : PySem.Str} (h : x.length ≤ 16777216) : itemsOf S .val [.str x] = some (x.cps.toList.map fun c => .str ⟨#[c]⟩, none) := if_pos h
theorem items_ref {k : Nat} {ds : List D} (h : S[k]? = some (.lst ds)) : itemsOf S .val [.ref k] = some (ds, some (k, ds)) := by
  show (match S[k]? with | some (.lst ds) => some (ds, some (k, ds)) | _ => none) = _
  rw [h]
theorem len_str {x : PySem.Str} (h : x.length ≤ 16777216) : bltE S .len [.str x] = some (.int x.length) := if_pos h
def dN (K : List PySem.Str) : D := .dct (K.map .str) (K.map fun _ => .bl true)
theorem find_str (nm : PySem.Str) : ∀ K : List PySem.Str, Ev.find (K.map .str) (.str nm) = K.findIdx? fun x => decide (x = nm)
  | [] => rfl
  | x :: K => by
    have ih := find_str nm K
    unfold Ev.find at ih ⊢
    rw [List.map_cons, List.findIdx?_cons, List.findIdx?_cons, ih]
    rfl
theorem find_mem (nm : PySem.Str) (K : List PySem.Str) : (Ev.find (K.map .str) (.str nm)).isSome = decide (nm ∈ K) := by
  rw [find_str, List.findIdx?_isSome, Bool.eq_iff_iff]
  simp
theorem in_dN {i : Nat} {K : List PySem.Str} {nm : PySem.Str} (hS : S[i]? = some (dN K)) : inE S (.str nm) (.ref i) = some (decide (nm ∈ K)) := by
  show (match Ev.seqOf S (.ref i) with | some ds => inL S (.str nm) ds | none => match Ev.dictOf S (.ref i) with | some (ks, _) => if keyOk (.str nm) then some (Ev.find ks (.str nm)).isSome else none | none => none) = _
  rw [seqOf_ref, listOf_refd hS, dictOf_ref hS]
  show (if keyOk (.str nm) then some (Ev.find (K.map .str) (.str nm)).isSome else none) = _
  rw [find_mem]; rfl
theorem put_new {K : List PySem.Str} {nm : PySem.Str} (h : nm ∉ K) : Ev.putK (K.map .str) (K.map fun _ => .bl true) (.str nm) (.bl true) = ((K ++ [nm]).map .str, (K ++ [nm]).map fun _ => .bl true) := by
  unfold Ev.putK
  have hf : Ev.find (K.map .str) (.str nm) = none := by
    have := find_mem nm K
    cases e : Ev.find (K.map .str) (.str nm) with
    | none => rfl
    | some j => rw [e] at this; simp [h] at this
  rw [hf]
  simp
theorem dN_under (b : Nat) (K : List PySem.Str) : (dN K).under b = true := by
  unfold dN D.under
  rw [unders_all, unders_all]
  simp [D.under]
theorem setI_new {i : Nat} {K : List PySem.Str} {nm : PySem.Str} (hS : S[i]? = some (dN K)) (hl : K.length < 16777216) (h : nm ∉ K) : setItE (.ref i) (.str nm) (.bl true) S = some (S.set i (dN (K ++ [nm]))) := by
  have hk : (keyOk (.str nm) && decide ((K.map D.str).length < 16777216)) = true := by
    rw [List.length_map]
    simp [keyOk]; omega
  unfold dN at hS
  unfold setItE
  simp only [hS, hk, if_true, settle, put_new h, dN]
theorem get_b {k : Nat} {o : D} {l : Sto} (h : S[k]? = some o) : (S ++ l)[k]? = some o := by
  rw [List.getElem?_append_left (List.getElem?_eq_some_iff.mp h).1, h]
theorem leave_under {l : Sto} {d : D} (hc : Cl S) (h : d.under S.length = true) : leave S.length d (S ++ l) = some (.ok d S) := by
  unfold leave
  rw [if_pos (closed_of hc)]
  unfold reify taken
  rw [h]
  simp
theorem fmod_bd {i j : Int} (hj : 0 < j) : 0 ≤ i.fmod j ∧ i.fmod j < j := ⟨Int.fmod_nonneg_of_pos _ hj, Int.fmod_lt_of_pos _ hj⟩
theorem leave_pu0 {l : Sto} {d : D} (hc : Cl S) (h : d.pure = true) : leave S.length d (S ++ l) = some (.ok d S) := leave_pure hc h
theorem ints_pure (xs : List Int) : pures (xs.map D.int) = true := pures_of fun x hx => by
  obtain ⟨i, _, rfl⟩ := List.mem_map.mp hx
  rfl
theorem Cl.lst {ds : List D} (h : Cl S) (hp : pures ds = true) : Cl (S ++ [.lst ds]) := h.app (by
  unfold unders unders D.under
  rw [pures_under _ _ hp]; rfl)
theorem leave_l0 {l : Sto} {ds : List D} (hc : Cl S) (hk : l[0]? = some (.lst ds)) (h : pures ds = true) : leave S.length (.ref S.length) (S ++ l) = some (.ok (.lst ds) S) := leave_lst (k := 0) hc hk h
/-- what a stream has -/
def Str1 (xs : List Int) : Prop := ∀ x ∈ xs, 0 ≤ x ∧ x < 1099511627776
theorem app_lst {k : Nat} {ds : List D} {v : D} (h : S[k]? = some (.lst ds)) (hl : ds.length < 16777216) (hv : v.settled = true) : mthE .append (.ref k) [v] S = some (.non, S.set k (.lst (ds ++ [v]))) := by
  rw [mth_append, h]
  simp only [hl, if_true, settle_settled _ _ hv]
theorem rcv_lst {k : Nat} {ds : List D} (h : S[k]? = some (.lst ds)) : recvOk .append (.ref k) S = true := by rw [rcv_append, listOf_ref h]; rfl
theorem rcv_popl {k : Nat} {ds : List D} (h : S[k]? = some (.lst ds)) : recvOk .pop (.ref k) S = true := by rw [rcv_pop, listOf_ref h]; rfl
theorem items_r1 {j : Int} (h : j ≤ 1000000) (h' : -1000000 ≤ j) : itemsOf S .rng1 [.int j] = some ((List.range j.toNat).map fun (k : Nat) => D.int k, none) := items_rng1 h h'
theorem rng_settled {m : Nat} : settleds ((List.range m).map fun (k : Nat) => D.int k) = true := by
  rw [settleds_all, List.all_eq_true]
  intro x hx
  obtain ⟨k, _, rfl⟩ := List.mem_map.mp hx
  rfl
theorem rng_at {m k : Nat} {d : D} (h : ((List.range m).map fun (k : Nat) => D.int k)[k]? = some d) : d = .int k ∧ k < m := by
  rw [List.getElem?_map] at h
  obtain ⟨j, h1, rfl⟩ := Option.map_eq_some_iff.mp h
  obtain ⟨l1, e2⟩ := List.getElem?_eq_some_iff.mp h1
  rw [List.getElem_range] at e2
  subst e2
  exact ⟨rfl, by simpa using l1⟩
theorem rng_len {m : Nat} : ((List.range m).map fun (k : Nat) => D.int k).length = m := by simp
theorem idx_let {i : Int} (h0 : 0 ≤ i) (h : i < 26) : idxE S (.str "abcdefghijklmnopqrstuvwxyz") (.int i) = some (.str ⟨#[97 + i.toNat]⟩) := by
  obtain ⟨k, rfl⟩ : ∃ k : Nat, i = k := ⟨i.toNat, by omega⟩
  have hk : k < 26 := by omega
  have key : ∀ k : Nat, k < 26 → idxE S (.str "abcdefghijklmnopqrstuvwxyz") (.int (k : Int)) = some (.str ⟨#[97 + k]⟩) := by
    intro k hk
    show (if ("abcdefghijklmnopqrstuvwxyz" : PySem.Str).length ≤ 16777216 then ((Ev.atI ("abcdefghijklmnopqrstuvwxyz" : PySem.Str).cps.toList (k : Int)).map fun c => D.str ⟨#[c]⟩) else none) = _
    rw [if_pos (by decide +kernel), atI_nat]
    have : ∀ j : Fin 26, ("abcdefghijklmnopqrstuvwxyz" : PySem.Str).cps.toList[j.val]? = some (97 + j.val) := by decide +kernel
    rw [this ⟨k, hk⟩]; rfl
  exact key k hk
theorem join3 {a b c : Nat} : mthE .join (.str "") [.lst [.str ⟨#[a]⟩, .str ⟨#[b]⟩, .str ⟨#[c]⟩]] S = some (.str ⟨#[a, b, c]⟩, S) := rfl
theorem sl_str {x : PySem.Str} {j : Int} (h : 0 ≤ j) (hl : x.length ≤ 16777216) : slE S (.str x) .non (.int j) = some (.str ⟨(x.cps.toList.take j.toNat).toArray⟩) := by
  have hj : ¬ j < 0 := by omega
  show (if x.length ≤ 16777216 then some (D.str ⟨(cut x.cps.toList 0 (if j < 0 then (j + (x.length : Int)).toNat else min j.toNat x.length)).toArray⟩) else none) = _
  rw [if_pos hl, if_neg hj]
  unfold cut
  rw [List.drop_zero, Nat.sub_zero]
  have : x.cps.toList.take (min j.toNat x.length) = x.cps.toList.take j.toNat := by
    have hx : x.length = x.cps.toList.length := by simp [PySem.Str.length]
    rw [hx, List.take_eq_take_iff]
    simp
  rw [this]
theorem rep1 {c : Nat} {m : Int} : repS m ⟨#[c]⟩ = ⟨(List.replicate m.toNat c).toArray⟩ := by
  unfold repS
  congr 2
  generalize m.toNat = k
  induction k with
  | zero => rfl
  | succ k ih => rw [List.replicate_succ, List.flatten_cons, ih]; rfl
theorem mul_str {c : Nat} {m : Int} (h : 0 ≤ m) (h1 : m ≤ 1000) : binE S .mul (.str ⟨#[c]⟩) (.int m) = some (.str ⟨(List.replicate m.toNat c).toArray⟩) := by
  show (if decide (0 ≤ m) && decide (m ≤ 1000) && decide ((⟨#[c]⟩ : PySem.Str).length ≤ 1000) then some (D.str (repS m ⟨#[c]⟩)) else none) = _
  rw [rep1]
  simp [h, h1, PySem.Str.length]
theorem add_str {x y : PySem.Str} (h : x.length + y.length ≤ 16777216) : binE S .add (.str x) (.str y) = some (.str (x ++ y)) := by
  show (if lenOk (x.length + y.length) then some (D.str (x ++ y)) else none) = _
  exact if_pos (decide_eq_true h)
theorem wpO_atI {α : Type} {xs : List α} {i : Int} {k : α → Prop} (h0 : 0 ≤ i) (h1 : i < xs.length) (h : ∀ x ∈ xs, k x) : wpO k (Ev.atI xs i) := by
  obtain ⟨x, e, m⟩ := atI_ok h0 h1
  rw [e]; exact h x m
/-- a tuple with one list in it is handed back -/
theorem leave_tr {as bs ds : List D} {l : Sto} {k : Nat} (hc : Cl S) (ha : pures as = true) (hb : pures bs = true) (hk : l[k]? = some (.lst ds)) (hd : pures ds = true) :
    leave S.length (.tup (as ++ .ref (S.length + k) :: bs)) (S ++ l) = some (.ok (.tup (as ++ .lst ds :: bs)) S) := by
  unfold leave
  rw [if_pos (closed_of hc)]
  have hu : (D.ref (S.length + k)).under S.length = false := by unfold D.under; exact decide_eq_false (by omega)
  have hut : (D.tup (as ++ .ref (S.length + k) :: bs)).under S.length = false := by
    unfold D.under
    rw [unders_all, List.all_append, List.all_cons, hu]; simp
  have hg : (S ++ l)[S.length + k]? = some (.lst ds) := by rw [get_app]; exact hk
  have h1 : reify (S ++ l) S.length 8 (.ref (S.length + k)) = some (.lst ds) := by
    unfold reify
    simp only [hu, hg, mapM_pure ds hd]
    simp
  have h2 : taken (S ++ l) S.length 8 (.ref (S.length + k)) = [S.length + k] := by
    unfold taken
    simp only [hu, hg, taken_pure ds hd]
    simp
  have h3 : reify (S ++ l) S.length 9 (.tup (as ++ .ref (S.length + k) :: bs)) = some (.tup (as ++ .lst ds :: bs)) := by
    conv => lhs; unfold reify
    simp only [hut, Bool.false_eq_true, if_false]
    rw [List.mapM_append, List.mapM_cons, mapM_pure as ha, mapM_pure bs hb, h1]
    rfl
  have h4 : taken (S ++ l) S.length 9 (.tup (as ++ .ref (S.length + k) :: bs)) = [S.length + k] := by
    conv => lhs; unfold taken
    simp only [hut, Bool.false_eq_true, if_false]
    rw [List.flatMap_append, List.flatMap_cons, taken_pure as ha, taken_pure bs hb, h2]
    rfl
  rw [h3, h4]
  simp
theorem cl_one {ds : List D} (hc : Cl S) (h : pures ds = true) : Cl (S ++ [.lst ds]) := hc.app (by
  unfold unders unders D.under
  rw [pures_under _ _ h]; rfl)
theorem sl_to {k : Nat} {ds : List D} {a : Int} (h : S[k]? = some (.lst ds)) (h0 : 0 ≤ a) : slE S (.ref k) .non (.int a) = some (.lst (ds.take a.toNat)) := by
  have hl := listOf_ref h
  have ha : ¬ a < 0 := by omega
  show (match Ev.listOf S (.ref k) with | some ds => (match sIx ds.length 0 .non, sIx ds.length ds.length (.int a) with | some i, some j => some (D.lst (cut ds i j)) | _, _ => none) | none => none) = _
  rw [hl]
  show some (D.lst (cut ds 0 (if a < 0 then (a + (ds.length : Int)).toNat else min a.toNat ds.length))) = _
  rw [if_neg ha]
  unfold cut
  rw [List.drop_zero, Nat.sub_zero]
  congr 2
  rw [List.take_eq_take_iff]; simp
theorem sl_from {k : Nat} {ds : List D} {a : Int} (h : S[k]? = some (.lst ds)) (h0 : 0 ≤ a) : slE S (.ref k) (.int a) .non = some (.lst (ds.drop a.toNat)) := by
  have hl := listOf_ref h
  have ha : ¬ a < 0 := by omega
  show (match Ev.listOf S (.ref k) with | some ds => (match sIx ds.length 0 (.int a), sIx ds.length ds.length .non with | some i, some j => some (D.lst (cut ds i j)) | _, _ => none) | none => none) = _
  rw [hl]
  show some (D.lst (cut ds (if a < 0 then (a + (ds.length : Int)).toNat else min a.toNat ds.length) ds.length)) = _
  rw [if_neg ha]
  unfold cut
  congr 2
  rw [List.take_of_length_le (by rw [List.length_drop]; omega)]
  by_cases hm : a.toNat ≤ ds.length
  · rw [Nat.min_eq_left hm]
  · rw [Nat.min_eq_right (by omega), List.drop_length, List.drop_eq_nil_of_le (by omega)]
theorem len_ref {k : Nat} {ds : List D} (h : S[k]? = some (.lst ds)) : bltE S .len [.ref k] = some (.int ds.length) := len_seq (by rw [seqOf_ref, listOf_ref h])
theorem idx_ref {k : Nat} {ds : List D} {i : Int} (h : S[k]? = some (.lst ds)) : idxE S (.ref k) (.int i) = Ev.atI ds i := by rw [idx_r, h]
theorem add_l {a b : List D} (h : a.length + b.length ≤ 16777216) : binE S .add (.lst a) (.lst b) = some (.lst (a ++ b)) := by rw [add_ll, if_pos h]
mutual
theorem eqv_refl : ∀ d : D, d.pure = true → d.eqv d = true
  | .non, _ => rfl
  | .bl b, _ => by simp [D.eqv]
  | .int i, _ => by simp [D.eqv]
  | .str s, _ => by simp [D.eqv]
  | .tup ds, h => by rw [pure_tup] at h; rw [D.eqv]; exact eqvs_refl ds h
  | .lst _, h => by cases h
  | .dct _ _, h => by cases h
  | .nd _ _, h => by cases h
  | .fz _, h => by cases h
  | .ref _, h => by cases h
  | .exc _, h => by cases h
theorem eqvs_refl : ∀ ds : List D, pures ds = true → eqvs ds ds = true
  | [], _ => rfl
  | d :: ds, h => by
    rw [pu_cons] at h
    obtain ⟨h1, h2⟩ := Bool.and_eq_true_iff.mp h
    rw [eqvs, eqv_refl d h1, eqvs_refl ds h2]; rfl
end
theorem eq_refl {d : D} (hp : d.pure = true) (hd : d.depth ≤ 150) : eqE S d d = some true := by
  rw [eq_pure hp hp (by omega), eqv_refl d hp]
theorem eq_ll {ds : List D} {a b : D} (ha : res S 60 a = some (.lst ds)) (hb : res S 60 b = some (.lst ds)) (hp : pures ds = true) (hd : depths ds ≤ 149) : eqE S a b = some true := by
  unfold eqE
  rw [ha, hb]
  have : min (D.lst ds).depth (D.lst ds).depth ≤ 150 := by rw [D.depth]; omega
  simp only [if_pos this]
  rw [D.eqv, eqvs_refl ds hp]
theorem depths_le {b : Nat} : ∀ ds : List D, (∀ d ∈ ds, d.depth ≤ b) → depths ds ≤ b
  | [], _ => by simp [depths]
  | d :: ds, h => by
    rw [depths]
    have h1 := h d List.mem_cons_self
    have h2 := depths_le ds fun x m => h x (List.mem_cons_of_mem _ m)
    omega
theorem in_strs {x : PySem.Str} {K : List PySem.Str} : inE S (.str x) (.lst (K.map .str)) = some (decide (x ∈ K)) := by
  show inL S (.str x) (K.map .str) = _
  have hp : pures (K.map D.str) = true := pures_of fun d hd => by
    obtain ⟨s, _, rfl⟩ := List.mem_map.mp hd
    rfl
  unfold inL resL
  rw [res_pure rfl, if_pos hp]
  have : min (depths (K.map D.str)) (D.str x).depth ≤ 150 := by simp [D.depth]
  simp only [if_pos this]
  congr 1
  rw [Bool.eq_iff_iff]
  simp [D.eqv]
theorem res_r {k : Nat} {ds : List D} (h : S[k]? = some (.lst ds)) (hp : pures ds = true) : res S 60 (.ref k) = some (.lst ds) := res_ref h hp
theorem res_l {ds : List D} (hp : pures ds = true) : res S 60 (.lst ds) = some (.lst ds) := res_lst hp
end Ev
namespace Ev
section
variable {g : G} {ρ : Env} {S : Sto} {Q : D → Sto → Prop} {X : Nat → Sto → Prop} {Qn : Env → Sto → Prop}
/-- for x, y in ..: P k is the state ahead of the k-th item -/
structure ForTOk (g : G) (is : List Nat) (k : ItK) (body : List PS) (Qn : Env → Sto → Prop) (Q : D → Sto → Prop) (X : Nat → Sto → Prop) (P : Nat → Env → Sto → Prop) (ρ : Env) (ds : List D) (S1 : Dep (g, is, k, body, Qn, Q, X, P, ρ) Sto) : Prop where
  ok : ∃ its lk, itemsOf S1 k ds = some (its, lk) ∧ (∀ d ∈ its, ∃ es, d = .tup es ∧ settleds es = true) ∧ P 0 ρ S1 ∧ (∀ k ρ S, P k ρ S → stays lk S) ∧
    (∀ k es ρ S, its[k]? = some (.tup es) → P k ρ S → wpO (fun ρ' => wpB g body (fun ρ S => P (k + 1) ρ S) Q X ρ' S) (setNames is es ρ)) ∧ ∀ ρ S, P its.length ρ S → Qn ρ S
theorem wp_forT (P : Nat → Env → Sto → Prop) {is : List Nat} {k : ItK} {es : List PE} {body : List PS} (h : wpEs g es (fun ds S1 => ForTOk g is k body Qn Q X P ρ ds S1) X ρ S) :
    wpS g (.for_ (.tp is) k es body) Qn Q X ρ S := by
  unfold wpS
  rw [execS, wpF_bnd]
  refine wpR_mono h (fun ds S1 ⟨its, lk, e, hs, h0, hk, step, fin⟩ => ?_) fun _ _ z => z
  rw [e]
  refine wp_forL its P hk (fun k d ρ S hd p => ?_) fin ρ S1 h0
  obtain ⟨es, rfl, hes⟩ := hs d (List.mem_of_getElem? hd)
  have h1 := step k es ρ S hd p
  have e2 : setTg (.tp is) (.tup es) ρ S = (setNames is es ρ).map fun ρ' => (ρ', S) := by
    show (setNames is (settles es S).1 ρ).map (fun ρ' => (ρ', (settles es S).2)) = _
    rw [settles_settled es S hes]
  rw [e2]
  cases hq : setNames is es ρ with
  | none => rw [hq] at h1; exact h1.elim
  | some ρ' => rw [hq] at h1; exact h1
end
end Ev
namespace Ev
theorem wpB_app {g : G} {ρ : Env} {S : Sto} {Q : D → Sto → Prop} {X : Nat → Sto → Prop} {Qn : Env → Sto → Prop} {A B : List PS} : wpB g (A ++ B) Qn Q X ρ S = wpB g A (fun ρ S => wpB g B Qn Q X ρ S) Q X ρ S := by
  unfold wpB
  rw [execB_app, wpF_seq]
/-- a text in two parts -/
theorem wp_split {g : G} {ρ : Env} {S : Sto} {Q : D → Sto → Prop} {X : Nat → Sto → Prop} {Qn : Env → Sto → Prop} {ss : List PS} (k : Nat) (P : Env → Sto → Prop) (h1 : wpB g (ss.take k) P Q X ρ S) (h2 : ∀ ρ S, P ρ S → wpB g (ss.drop k) Qn Q X ρ S) : wpB g ss Qn Q X ρ S := by
  rw [← List.take_append_drop k ss, wpB_app]
  exact wpB_mono h1 h2 (fun _ _ z => z) fun _ _ z => z
end Ev
namespace Ev
section
variable {g : G} {ρ : Env} {S l : Sto} {i : Nat} {Q : D → Sto → Prop} {X : Nat → Sto → Prop} {Qn : Env → Sto → Prop}
theorem set_b {o x : D} (h : S[i]? = some o) : (S ++ l).set i x = S.set i x ++ l := List.set_append_left _ _ (List.getElem?_eq_some_iff.mp h).1
theorem get_set {o x : D} (h : S[i]? = some o) : (S.set i x)[i]? = some x := List.getElem?_set_self (List.getElem?_eq_some_iff.mp h).1
theorem set_same {o : D} (h : S[i]? = some o) : S.set i o = S := by
  obtain ⟨hl, e⟩ := List.getElem?_eq_some_iff.mp h
  rw [← e]
  exact List.set_getElem_self hl
theorem ints_under {b : Nat} (xs : List Int) : (D.lst (xs.map .int)).under b = true := by
  unfold D.under
  exact pures_under _ _ (ints_pure xs)
theorem Cl.ints (h : Cl S) (xs : List Int) : Cl (S.set i (.lst (xs.map .int))) := h.set (ints_under xs)
theorem leave_si {t : D} {xs : List Int} (hc : Cl S) (ht : t.pure = true) : leave S.length t (S.set i (.lst (xs.map .int)) ++ l) = some (.ok t (S.set i (.lst (xs.map .int)))) := by
  have := leave_pure (l := l) (hc.ints (i := i) xs) ht
  rwa [List.length_set] at this
theorem leave_si0 {t : D} {xs : List Int} (hc : Cl S) (ht : t.pure = true) : leave S.length t (S.set i (.lst (xs.map .int))) = some (.ok t (S.set i (.lst (xs.map .int)))) := by
  have := leave_si (l := []) (i := i) (xs := xs) hc ht
  simpa using this
/-- number = 0; if xs != []: number = xs.pop() -/
theorem wp_pops {a v : Nat} {xs : List Int} {ss : List PS} (hv : getV ρ v = some (.ref i)) (hv2 : getV (ρ.set a (some (.int 0))) v = some (.ref i)) (hS : S[i]? = some (.lst (xs.map .int)))
    (h : ∀ (x : Int) (xs' : List Int), wpB g ss Qn Q X (ρ.set a (some (.int x))) (S.set i (.lst (xs'.map .int)))) :
    wpB g (.set a (.cst (.int 0)) :: .ife (.cmp .ne (.var v) (.lst [])) [.set a (.mth .pop (.var v) [])] [] :: ss) Qn Q X ρ S := by
  have hne := eq_nil hS (ints_pure xs)
  simp only [wpB_cons, wpS_set, wpE_cst, settle_int, wpS_ife, wpE_cmp, wpE_var, hv2, wpO_some, wpE_lst, wpEs_nil, cmp_ne, hne, Option.map_some, truth_bl, wpT_not]
  rcases List.eq_nil_or_concat xs with rfl | ⟨ys, y, rfl⟩
  · have : ([] : List Int).map D.int = [] := rfl
    rw [this] at hS
    simp only [List.map_nil, List.isEmpty_nil, wpT_true, wpB_nil, Bool.not_true, wpT_false]
    have h0 := h 0 []
    rw [this, set_same hS] at h0
    exact h0
  · have hm : (ys.concat y).map D.int = ys.map D.int ++ [D.int y] := by simp
    rw [hm] at hS ⊢
    have hemp : (ys.map D.int ++ [D.int y]).isEmpty = false := by simp
    have hp : mthE .pop (.ref i) [] S = some (.int y, S.set i (.lst (ys.map .int))) := by
      rw [mth_pop, hS]
      simp
    rw [hemp]
    simp only [Bool.not_false, wpT_true, wpT_false, wpB_cons, wpB_nil, wpS_set, wpE_mth, wpE_var, hv2, wpO_some, rcv_popl hS, if_true, wpEs_nil, hp, settle_int, List.set_set]
    exact h y ys
end
end Ev
end
section
set_option Elab.async false
set_option linter.all false
set_option maxRecDepth 100000
namespace Pg
open Ev
noncomputable def F : Nat → Nat → List D → Sto → Option (R D) := callN fns (fun _ _ => false)
noncomputable def g0 (n : Nat) : G := ⟨F n, fun _ _ => false⟩
theorem g0_F {n : Nat} : (g0 n).F = F n := rfl
theorem g0_isa {n : Nat} : (g0 n).isa = fun _ _ => false := rfl
section
variable {n : Nat} {S S' : Sto} {Q : D → Sto → Prop} {X : Nat → Sto → Prop}
theorem e_divisor_of {a0 a1 c0 c1 : D} (hs : settles [a0, a1] S = ([c0, c1], S')) (h : wpB (g0 n) b_divisor_of (fun _ S' => wpR Q X (leave S.length .non S')) (fun d S' => wpR Q X (leave S.length d S')) (fun c S' => X c (if closed S.length S' then S'.take S.length else S')) [some c0, some c1, none, none] S') : wpR Q X (F (n + 1) 0 [a0, a1] S) := by
  unfold F
  refine wp_call (np := 2) (ns := 4) (body := b_divisor_of) rfl rfl ?_
  rw [hs]; exact h
theorem e_reduced {a0 a1 c0 c1 : D} (hs : settles [a0, a1] S = ([c0, c1], S')) (h : wpB (g0 n) b_reduced (fun _ S' => wpR Q X (leave S.length .non S')) (fun d S' => wpR Q X (leave S.length d S')) (fun c S' => X c (if closed S.length S' then S'.take S.length else S')) [some c0, some c1, none] S') : wpR Q X (F (n + 1) 1 [a0, a1] S) := by
  unfold F
  refine wp_call (np := 2) (ns := 3) (body := b_reduced) rfl rfl ?_
  rw [hs]; exact h
theorem e_sum_of_two {a0 a1 c0 c1 : D} (hs : settles [a0, a1] S = ([c0, c1], S')) (h : wpB (g0 n) b_sum_of_two (fun _ S' => wpR Q X (leave S.length .non S')) (fun d S' => wpR Q X (leave S.length d S')) (fun c S' => X c (if closed S.length S' then S'.take S.length else S')) [some c0, some c1] S') : wpR Q X (F (n + 1) 2 [a0, a1] S) := by
  unfold F
  refine wp_call (np := 2) (ns := 2) (body := b_sum_of_two) rfl rfl ?_
  rw [hs]; exact h
theorem e_sum_value {a0 a1 a2 c0 c1 c2 : D} (hs : settles [a0, a1, a2] S = ([c0, c1, c2], S')) (h : wpB (g0 n) b_sum_value (fun _ S' => wpR Q X (leave S.length .non S')) (fun d S' => wpR Q X (leave S.length d S')) (fun c S' => X c (if closed S.length S' then S'.take S.length else S')) [some c0, some c1, some c2, none, none] S') : wpR Q X (F (n + 1) 3 [a0, a1, a2] S) := by
  unfold F
  refine wp_call (np := 3) (ns := 5) (body := b_sum_value) rfl rfl ?_
  rw [hs]; exact h
theorem e_looked_up {a0 a1 c0 c1 : D} (hs : settles [a0, a1] S = ([c0, c1], S')) (h : wpB (g0 n) b_looked_up (fun _ S' => wpR Q X (leave S.length .non S')) (fun d S' => wpR Q X (leave S.length d S')) (fun c S' => X c (if closed S.length S' then S'.take S.length else S')) [some c0, some c1, none, none] S') : wpR Q X (F (n + 1) 4 [a0, a1] S) := by
  unfold F
  refine wp_call (np := 2) (ns := 4) (body := b_looked_up) rfl rfl ?_
  rw [hs]; exact h
theorem e_word_at {a0 a1 a2 a3 c0 c1 c2 c3 : D} (hs : settles [a0, a1, a2, a3] S = ([c0, c1, c2, c3], S')) (h : wpB (g0 n) b_word_at (fun _ S' => wpR Q X (leave S.length .non S')) (fun d S' => wpR Q X (leave S.length d S')) (fun c S' => X c (if closed S.length S' then S'.take S.length else S')) [some c0, some c1, some c2, some c3] S') : wpR Q X (F (n + 1) 5 [a0, a1, a2, a3] S) := by
  unfold F
  refine wp_call (np := 4) (ns := 4) (body := b_word_at) rfl rfl ?_
  rw [hs]; exact h
theorem e_value_of {a0 a1 a2 c0 c1 c2 : D} (hs : settles [a0, a1, a2] S = ([c0, c1, c2], S')) (h : wpB (g0 n) b_value_of (fun _ S' => wpR Q X (leave S.length .non S')) (fun d S' => wpR Q X (leave S.length d S')) (fun c S' => X c (if closed S.length S' then S'.take S.length else S')) [some c0, some c1, some c2, none, none, none, none] S') : wpR Q X (F (n + 1) 6 [a0, a1, a2] S) := by
  unfold F
  refine wp_call (np := 3) (ns := 7) (body := b_value_of) rfl rfl ?_
  rw [hs]; exact h
theorem e__law_cell_at {a0 a1 c0 c1 : D} (hs : settles [a0, a1] S = ([c0, c1], S')) (h : wpB (g0 n) b__law_cell_at (fun _ S' => wpR Q X (leave S.length .non S')) (fun d S' => wpR Q X (leave S.length d S')) (fun c S' => X c (if closed S.length S' then S'.take S.length else S')) [some c0, some c1] S') : wpR Q X (F (n + 1) 7 [a0, a1] S) := by
  unfold F
  refine wp_call (np := 2) (ns := 2) (body := b__law_cell_at) rfl rfl ?_
  rw [hs]; exact h
theorem e__law_stream {a0 a1 c0 c1 : D} (hs : settles [a0, a1] S = ([c0, c1], S')) (h : wpB (g0 n) b__law_stream (fun _ S' => wpR Q X (leave S.length .non S')) (fun d S' => wpR Q X (leave S.length d S')) (fun c S' => X c (if closed S.length S' then S'.take S.length else S')) [some c0, some c1, none, none, none, none, none, none] S') : wpR Q X (F (n + 1) 8 [a0, a1] S) := by
  unfold F
  refine wp_call (np := 2) (ns := 8) (body := b__law_stream) rfl rfl ?_
  rw [hs]; exact h
theorem e__law_take {a0 c0 : D} (hs : settles [a0] S = ([c0], S')) (h : wpB (g0 n) b__law_take (fun _ S' => wpR Q X (leave S.length .non S')) (fun d S' => wpR Q X (leave S.length d S')) (fun c S' => X c (if closed S.length S' then S'.take S.length else S')) [some c0] S') : wpR Q X (F (n + 1) 9 [a0] S) := by
  unfold F
  refine wp_call (np := 1) (ns := 1) (body := b__law_take) rfl rfl ?_
  rw [hs]; exact h
theorem e__law_world {a0 c0 : D} (hs : settles [a0] S = ([c0], S')) (h : wpB (g0 n) b__law_world (fun _ S' => wpR Q X (leave S.length .non S')) (fun d S' => wpR Q X (leave S.length d S')) (fun c S' => X c (if closed S.length S' then S'.take S.length else S')) [some c0, none, none, none, none, none, none, none] S') : wpR Q X (F (n + 1) 10 [a0] S) := by
  unfold F
  refine wp_call (np := 1) (ns := 8) (body := b__law_world) rfl rfl ?_
  rw [hs]; exact h
theorem e__law_divisor {a0 a1 c0 c1 : D} (hs : settles [a0, a1] S = ([c0, c1], S')) (h : wpB (g0 n) b__law_divisor (fun _ S' => wpR Q X (leave S.length .non S')) (fun d S' => wpR Q X (leave S.length d S')) (fun c S' => X c (if closed S.length S' then S'.take S.length else S')) [some c0, some c1] S') : wpR Q X (F (n + 1) 11 [a0, a1] S) := by
  unfold F
  refine wp_call (np := 2) (ns := 2) (body := b__law_divisor) rfl rfl ?_
  rw [hs]; exact h
theorem e__law_reduced {a0 a1 c0 c1 : D} (hs : settles [a0, a1] S = ([c0, c1], S')) (h : wpB (g0 n) b__law_reduced (fun _ S' => wpR Q X (leave S.length .non S')) (fun d S' => wpR Q X (leave S.length d S')) (fun c S' => X c (if closed S.length S' then S'.take S.length else S')) [some c0, some c1, none] S') : wpR Q X (F (n + 1) 12 [a0, a1] S) := by
  unfold F
  refine wp_call (np := 2) (ns := 3) (body := b__law_reduced) rfl rfl ?_
  rw [hs]; exact h
theorem e__law_value {a0 a1 c0 c1 : D} (hs : settles [a0, a1] S = ([c0, c1], S')) (h : wpB (g0 n) b__law_value (fun _ S' => wpR Q X (leave S.length .non S')) (fun d S' => wpR Q X (leave S.length d S')) (fun c S' => X c (if closed S.length S' then S'.take S.length else S')) [some c0, some c1, none] S') : wpR Q X (F (n + 1) 13 [a0, a1] S) := by
  unfold F
  refine wp_call (np := 2) (ns := 3) (body := b__law_value) rfl rfl ?_
  rw [hs]; exact h
theorem e__law_entries {a0 a1 a2 c0 c1 c2 : D} (hs : settles [a0, a1, a2] S = ([c0, c1, c2], S')) (h : wpB (g0 n) b__law_entries (fun _ S' => wpR Q X (leave S.length .non S')) (fun d S' => wpR Q X (leave S.length d S')) (fun c S' => X c (if closed S.length S' then S'.take S.length else S')) [some c0, some c1, some c2, none, none, none, none] S') : wpR Q X (F (n + 1) 14 [a0, a1, a2] S) := by
  unfold F
  refine wp_call (np := 3) (ns := 7) (body := b__law_entries) rfl rfl ?_
  rw [hs]; exact h
theorem e__law_values {a0 a1 c0 c1 : D} (hs : settles [a0, a1] S = ([c0, c1], S')) (h : wpB (g0 n) b__law_values (fun _ S' => wpR Q X (leave S.length .non S')) (fun d S' => wpR Q X (leave S.length d S')) (fun c S' => X c (if closed S.length S' then S'.take S.length else S')) [some c0, some c1, none, none] S') : wpR Q X (F (n + 1) 15 [a0, a1] S) := by
  unfold F
  refine wp_call (np := 2) (ns := 4) (body := b__law_values) rfl rfl ?_
  rw [hs]; exact h
theorem e__law_sort {a0 c0 : D} (hs : settles [a0] S = ([c0], S')) (h : wpB (g0 n) b__law_sort (fun _ S' => wpR Q X (leave S.length .non S')) (fun d S' => wpR Q X (leave S.length d S')) (fun c S' => X c (if closed S.length S' then S'.take S.length else S')) [some c0] S') : wpR Q X (F (n + 1) 16 [a0] S) := by
  unfold F
  refine wp_call (np := 1) (ns := 1) (body := b__law_sort) rfl rfl ?_
  rw [hs]; exact h
theorem e__law_leaf {a0 a1 a2 c0 c1 c2 : D} (hs : settles [a0, a1, a2] S = ([c0, c1, c2], S')) (h : wpB (g0 n) b__law_leaf (fun _ S' => wpR Q X (leave S.length .non S')) (fun d S' => wpR Q X (leave S.length d S')) (fun c S' => X c (if closed S.length S' then S'.take S.length else S')) [some c0, some c1, some c2, none, none, none, none, none] S') : wpR Q X (F (n + 1) 17 [a0, a1, a2] S) := by
  unfold F
  refine wp_call (np := 3) (ns := 8) (body := b__law_leaf) rfl rfl ?_
  rw [hs]; exact h
theorem e__law_row_term {a0 a1 a2 a3 c0 c1 c2 c3 : D} (hs : settles [a0, a1, a2, a3] S = ([c0, c1, c2, c3], S')) (h : wpB (g0 n) b__law_row_term (fun _ S' => wpR Q X (leave S.length .non S')) (fun d S' => wpR Q X (leave S.length d S')) (fun c S' => X c (if closed S.length S' then S'.take S.length else S')) [some c0, some c1, some c2, some c3, none, none, none] S') : wpR Q X (F (n + 1) 18 [a0, a1, a2, a3] S) := by
  unfold F
  refine wp_call (np := 4) (ns := 7) (body := b__law_row_term) rfl rfl ?_
  rw [hs]; exact h
theorem e__law_called {a0 a1 a2 a3 c0 c1 c2 c3 : D} (hs : settles [a0, a1, a2, a3] S = ([c0, c1, c2, c3], S')) (h : wpB (g0 n) b__law_called (fun _ S' => wpR Q X (leave S.length .non S')) (fun d S' => wpR Q X (leave S.length d S')) (fun c S' => X c (if closed S.length S' then S'.take S.length else S')) [some c0, some c1, some c2, some c3, none, none, none, none] S') : wpR Q X (F (n + 1) 19 [a0, a1, a2, a3] S) := by
  unfold F
  refine wp_call (np := 4) (ns := 8) (body := b__law_called) rfl rfl ?_
  rw [hs]; exact h
theorem e__law_term {a0 a1 a2 a3 c0 c1 c2 c3 : D} (hs : settles [a0, a1, a2, a3] S = ([c0, c1, c2, c3], S')) (h : wpB (g0 n) b__law_term (fun _ S' => wpR Q X (leave S.length .non S')) (fun d S' => wpR Q X (leave S.length d S')) (fun c S' => X c (if closed S.length S' then S'.take S.length else S')) [some c0, some c1, some c2, some c3, none, none, none] S') : wpR Q X (F (n + 1) 20 [a0, a1, a2, a3] S) := by
  unfold F
  refine wp_call (np := 4) (ns := 7) (body := b__law_term) rfl rfl ?_
  rw [hs]; exact h
theorem e__law_due {a0 a1 c0 c1 : D} (hs : settles [a0, a1] S = ([c0, c1], S')) (h : wpB (g0 n) b__law_due (fun _ S' => wpR Q X (leave S.length .non S')) (fun d S' => wpR Q X (leave S.length d S')) (fun c S' => X c (if closed S.length S' then S'.take S.length else S')) [some c0, some c1, none, none, none, none, none, none] S') : wpR Q X (F (n + 1) 21 [a0, a1] S) := by
  unfold F
  refine wp_call (np := 2) (ns := 8) (body := b__law_due) rfl rfl ?_
  rw [hs]; exact h
theorem e__law_word {a0 a1 a2 c0 c1 c2 : D} (hs : settles [a0, a1, a2] S = ([c0, c1, c2], S')) (h : wpB (g0 n) b__law_word (fun _ S' => wpR Q X (leave S.length .non S')) (fun d S' => wpR Q X (leave S.length d S')) (fun c S' => X c (if closed S.length S' then S'.take S.length else S')) [some c0, some c1, some c2, none, none] S') : wpR Q X (F (n + 1) 22 [a0, a1, a2] S) := by
  unfold F
  refine wp_call (np := 3) (ns := 5) (body := b__law_word) rfl rfl ?_
  rw [hs]; exact h
theorem e__law_right {a0 a1 c0 c1 : D} (hs : settles [a0, a1] S = ([c0, c1], S')) (h : wpB (g0 n) b__law_right (fun _ S' => wpR Q X (leave S.length .non S')) (fun d S' => wpR Q X (leave S.length d S')) (fun c S' => X c (if closed S.length S' then S'.take S.length else S')) [some c0, some c1, none] S') : wpR Q X (F (n + 1) 23 [a0, a1] S) := by
  unfold F
  refine wp_call (np := 2) (ns := 3) (body := b__law_right) rfl rfl ?_
  rw [hs]; exact h
theorem e_law {a0 c0 : D} (hs : settles [a0] S = ([c0], S')) (h : wpB (g0 n) b_law (fun _ S' => wpR Q X (leave S.length .non S')) (fun d S' => wpR Q X (leave S.length d S')) (fun c S' => X c (if closed S.length S' then S'.take S.length else S')) [some c0, none, none, none, none, none, none, none] S') : wpR Q X (F (n + 1) 24 [a0] S) := by
  unfold F
  refine wp_call (np := 1) (ns := 8) (body := b_law) rfl rfl ?_
  rw [hs]; exact h
end
end Pg
end
section
set_option Elab.async false
set_option linter.all false
set_option maxRecDepth 100000
set_option maxHeartbeats 4000000
namespace Pg
open Ev
variable {n : Nat} {S : Sto}
/-! ### kinds, rows, worlds, sorts -/
inductive Kd where | truth | range (a b : Int) | fraction | table (k : Int)
def Kd.d : Kd → D
  | .truth => .tup [.str "truth"]
  | .range a b => .tup [.str "range", .int a, .int b]
  | .fraction => .tup [.str "fraction"]
  | .table k => .tup [.str "table", .int k]
inductive So where | num | tab (k : Int)
  deriving DecidableEq
def So.d : So → D
  | .num => .str "number"
  | .tab k => .tup [.str "table", .int k]
def soD : Option So → D
  | none => .non
  | some s => s.d
def Kd.so : Kd → Option So
  | .truth => none
  | .table k => some (.tab k)
  | _ => some .num
inductive Rw where | unk (nm : PySem.Str) (k : Kd) | fun_ (nm : PySem.Str) (ks : List Kd) (k : Kd) | row (nm : PySem.Str) (a b : Kd)
def Rw.d : Rw → D
  | .unk nm k => .tup [.str "unknown", .str nm, k.d]
  | .fun_ nm ks k => .tup [.str "function", .str nm, .tup (ks.map Kd.d), k.d]
  | .row nm a b => .tup [.str "row", .str nm, a.d, b.d]
def Rw.nm : Rw → PySem.Str
  | .unk nm _ => nm
  | .fun_ nm _ _ => nm
  | .row nm _ _ => nm
def Rw.word : Rw → PySem.Str
  | .unk _ _ => "unknown"
  | .fun_ _ _ _ => "function"
  | .row _ _ _ => "row"
theorem kd_pure (k : Kd) : k.d.pure = true := by cases k <;> rfl
theorem kds_pure (ks : List Kd) : pures (ks.map Kd.d) = true := pures_of fun x m => by
  obtain ⟨k, _, rfl⟩ := List.mem_map.mp m
  exact kd_pure k
theorem rw_pure (r : Rw) : r.d.pure = true := by
  cases r with
  | unk nm k => simp [Rw.d, D.pure, pures, kd_pure]
  | fun_ nm ks k => simp [Rw.d, D.pure, pures, kd_pure, kds_pure]
  | row nm a b => simp [Rw.d, D.pure, pures, kd_pure]
theorem rws_pure (rs : List Rw) : pures (rs.map Rw.d) = true := pures_of fun x m => by
  obtain ⟨r, _, rfl⟩ := List.mem_map.mp m
  exact rw_pure r
theorem so_pure (s : Option So) : (soD s).pure = true := by
  cases s with
  | none => rfl
  | some s => cases s <;> rfl
theorem so_depth (s : Option So) : (soD s).depth ≤ 1 := by
  cases s with
  | none => simp [soD, D.depth]
  | some s => cases s <;> simp [soD, So.d, D.depth, depths]
theorem eq_so {a b : Option So} : eqE S (soD a) (soD b) = some (decide (a = b)) := by
  have := so_depth a
  rw [eq_pure (so_pure a) (so_pure b) (by omega)]
  congr 1
  cases a with
  | none =>
    cases b with
    | none => rfl
    | some b => cases b <;> simp [soD, So.d, D.eqv]
  | some a =>
    cases b with
    | none => cases a <;> simp [soD, So.d, D.eqv]
    | some b => cases a <;> cases b <;> simp [soD, So.d, D.eqv, eqvs]
theorem eq_num {a : Option So} : eqE S (soD a) (.str "number") = some (decide (a = some .num)) := eq_so (b := some .num)
theorem settle_so {s : Option So} : settle (soD s) S = (soD s, S) := settle_pure _ _ (so_pure s)
theorem isC_so {s : Option So} : isC false .non (soD s) = some (decide (s = none)) := by
  cases s with
  | none => rfl
  | some s => cases s <;> rfl
abbrev wd (rs : List Rw) : D := .tup (rs.map Rw.d)
theorem wd_pure (rs : List Rw) : (wd rs).pure = true := by rw [pure_tup]; exact rws_pure rs
theorem settle_wd {rs : List Rw} : settle (.tup (rs.map Rw.d)) S = (.tup (rs.map Rw.d), S) := settle_pure _ _ (wd_pure rs)
theorem settles_rw {rs : List Rw} : settles (rs.map Rw.d) S = (rs.map Rw.d, S) := settles_pure _ _ (rws_pure rs)
theorem ix0 (r : Rw) : idxE S r.d (.int 0) = some (.str r.word) := by cases r <;> rfl
theorem ix1 (r : Rw) : idxE S r.d (.int 1) = some (.str r.nm) := by cases r <;> rfl
theorem rw_settle {r : Rw} : settle r.d S = (r.d, S) := settle_pure _ _ (rw_pure r)
theorem kd_settle {k : Kd} : settle k.d S = (k.d, S) := settle_pure _ _ (kd_pure k)
theorem kds_settled (ks : List Kd) : settleds (ks.map Kd.d) = true := pures_settled _ (kds_pure ks)
theorem so_settle {s : So} : settle s.d S = (s.d, S) := settle_pure _ _ (so_pure (some s))
theorem eq_sn {s : So} : eqE S s.d (.str "number") = some (decide (s = .num)) := by
  have := eq_num (S := S) (a := some s)
  rw [show soD (some s) = s.d from rfl] at this
  rw [this]
  congr 1
  simp
theorem eq_sd {a : Option So} {s : So} : eqE S (soD a) s.d = some (decide (a = some s)) := eq_so (b := some s)
end Pg
end
section
set_option Elab.async false
set_option linter.all false
set_option maxRecDepth 100000
set_option maxHeartbeats 4000000
namespace Pg
open Ev
variable {n : Nat} {S : Sto}
/-! ### terms -/
mutual
inductive Trm where
  | unk (nm : PySem.Str) | mem (m j : Int) | num (a b : Int)
  | plus (ts : List Trm) | times (c : Int) (t : Trm) | app (nm : PySem.Str) (ts : List Trm) | read (r : Rtm) (t : Trm)
inductive Rtm where
  | row (nm : PySem.Str) | write (r : Rtm) (p w : Trm)
end
mutual
def Trm.d : Trm → D
  | .unk nm => .tup [.str "unknown", .str nm]
  | .mem m j => .tup [.str "member", .int m, .int j]
  | .num a b => .tup [.str "number", .int a, .int b]
  | .plus ts => .tup [.str "plus", .tup (Trm.ds ts)]
  | .times c t => .tup [.str "times", .int c, t.d]
  | .app nm ts => .tup [.str "apply", .str nm, .tup (Trm.ds ts)]
  | .read r t => .tup [.str "read", r.d, t.d]
def Trm.ds : List Trm → List D
  | [] => []
  | t :: ts => t.d :: Trm.ds ts
def Rtm.d : Rtm → D
  | .row nm => .tup [.str "row", .str nm]
  | .write r p w => .tup [.str "write", r.d, p.d, w.d]
end
theorem ds_map : ∀ ts : List Trm, Trm.ds ts = ts.map Trm.d
  | [] => rfl
  | t :: ts => by rw [Trm.ds, ds_map ts]; rfl
mutual
theorem trm_pure : ∀ t : Trm, t.d.pure = true
  | .unk _ => rfl
  | .mem _ _ => rfl
  | .num _ _ => rfl
  | .plus ts => by rw [Trm.d]; simp [pure_tup, pures, D.pure, trms_pure ts]
  | .times _ t => by rw [Trm.d]; simp [pure_tup, pures, D.pure, trm_pure t]
  | .app _ ts => by rw [Trm.d]; simp [pure_tup, pures, D.pure, trms_pure ts]
  | .read r t => by rw [Trm.d]; simp [pure_tup, pures, D.pure, trm_pure t, rtm_pure r]
theorem trms_pure : ∀ ts : List Trm, pures (Trm.ds ts) = true
  | [] => rfl
  | t :: ts => by rw [Trm.ds, pu_cons, trm_pure t, trms_pure ts]; rfl
theorem rtm_pure : ∀ r : Rtm, r.d.pure = true
  | .row _ => rfl
  | .write r p w => by rw [Rtm.d]; simp [pure_tup, pures, D.pure, trm_pure p, trm_pure w, rtm_pure r]
end
section
variable (rs : List Rw)
mutual
/-- a term of a sort, at most so deep -/
def okT : Trm → So → Nat → Prop
  | .unk nm, s, _ => ∃ kd, .unk nm kd ∈ rs ∧ kd.so = some s
  | .mem m j, s, _ => s = .tab m ∧ 2 ≤ m ∧ m ≤ 5 ∧ 0 ≤ j ∧ j < m
  | .num a b, s, _ => s = .num ∧ -1000000 ≤ a ∧ a ≤ 1000000 ∧ 1 ≤ b ∧ b ≤ 1000 ∧ Int.gcd a b = 1
  | .plus ts, s, k => s = .num ∧ 1 ≤ ts.length ∧ ts.length ≤ 3 ∧ ∃ k', k = k' + 1 ∧ okTs ts (ts.map fun _ => .num) k'
  | .times c t, s, k => s = .num ∧ -20 ≤ c ∧ c ≤ 20 ∧ ∃ k', k = k' + 1 ∧ okT t .num k'
  | .app nm ts, s, k => ∃ ks kr ss k', .fun_ nm ks kr ∈ rs ∧ kr.so = some s ∧ ks.map Kd.so = ss.map some ∧ k = k' + 1 ∧ okTs ts ss k'
  | .read r t, s, k => ∃ nm a b s1 k', .row nm a b ∈ rs ∧ a.so = some s1 ∧ b.so = some s ∧ k = k' + 1 ∧ okR r nm s1 s k' 2 ∧ okT t s1 k'
def okTs : List Trm → List So → Nat → Prop
  | [], [], _ => True
  | t :: ts, s :: ss, k => okT t s k ∧ okTs ts ss k
  | [], _ :: _, _ => False
  | _ :: _, [], _ => False
/-- a row with at most so many writings -/
def okR : Rtm → PySem.Str → So → So → Nat → Nat → Prop
  | .row nm', nm, _, _, _, _ => nm' = nm
  | .write r p w, nm, s1, s2, k, j => ∃ j', j = j' + 1 ∧ okR r nm s1 s2 k j' ∧ okT p s1 k ∧ okT w s2 k
end
mutual
theorem okT_mono : ∀ (t : Trm) {s : So} {k m : Nat}, k ≤ m → okT rs t s k → okT rs t s m
  | .unk _, _, _, _, _, h => by rw [okT] at h ⊢; exact h
  | .mem _ _, _, _, _, _, h => by rw [okT] at h ⊢; exact h
  | .num _ _, _, _, _, _, h => by rw [okT] at h ⊢; exact h
  | .plus ts, _, _, m, hk, h => by
    rw [okT] at h ⊢
    obtain ⟨h1, h2, h3, k', rfl, h4⟩ := h
    exact ⟨h1, h2, h3, m - 1, by omega, okTs_mono ts (by omega) h4⟩
  | .times c t, _, _, m, hk, h => by
    rw [okT] at h ⊢
    obtain ⟨h1, h2, h3, k', rfl, h4⟩ := h
    exact ⟨h1, h2, h3, m - 1, by omega, okT_mono t (by omega) h4⟩
  | .app nm ts, _, _, m, hk, h => by
    rw [okT] at h ⊢
    obtain ⟨ks, kr, ss, k', h1, h2, h3, rfl, h4⟩ := h
    exact ⟨ks, kr, ss, m - 1, h1, h2, h3, by omega, okTs_mono ts (by omega) h4⟩
  | .read r t, _, _, m, hk, h => by
    rw [okT] at h ⊢
    obtain ⟨nm, a, b, s1, k', h1, h2, h3, rfl, h4, h5⟩ := h
    exact ⟨nm, a, b, s1, m - 1, h1, h2, h3, by omega, okR_mono r (by omega) (Nat.le_refl _) h4, okT_mono t (by omega) h5⟩
theorem okTs_mono : ∀ (ts : List Trm) {ss : List So} {k m : Nat}, k ≤ m → okTs rs ts ss k → okTs rs ts ss m
  | [], [], _, _, _, h => by rw [okTs]; trivial
  | t :: ts, s :: ss, _, _, hk, h => by
    rw [okTs] at h ⊢
    exact ⟨okT_mono t hk h.1, okTs_mono ts hk h.2⟩
  | [], _ :: _, _, _, _, h => by rw [okTs] at h; exact h.elim
  | _ :: _, [], _, _, _, h => by rw [okTs] at h; exact h.elim
theorem okR_mono : ∀ (r : Rtm) {nm : PySem.Str} {s1 s2 : So} {k m j j2 : Nat}, k ≤ m → j ≤ j2 → okR rs r nm s1 s2 k j → okR rs r nm s1 s2 m j2
  | .row _, _, _, _, _, _, _, _, _, _, h => by rw [okR] at h ⊢; exact h
  | .write r p w, _, _, _, _, _, _, j2, hk, hj, h => by
    rw [okR] at h ⊢
    obtain ⟨j', rfl, h1, h2, h3⟩ := h
    exact ⟨j2 - 1, by omega, okR_mono r hk (by omega) h1, okT_mono p hk h2, okT_mono w hk h3⟩
end
end
theorem okTs_len {rs : List Rw} {k : Nat} : ∀ {ts : List Trm} {ss : List So}, okTs rs ts ss k → ts.length = ss.length
  | [], [], _ => rfl
  | t :: ts, s :: ss, h => by
    rw [okTs] at h
    rw [List.length_cons, List.length_cons, okTs_len h.2]
  | [], _ :: _, h => by rw [okTs] at h; exact h.elim
  | _ :: _, [], h => by rw [okTs] at h; exact h.elim
theorem okTs_snoc {rs : List Rw} {k : Nat} {t : Trm} {s : So} : ∀ {ts : List Trm} {ss : List So}, okTs rs ts ss k → okT rs t s k → okTs rs (ts ++ [t]) (ss ++ [s]) k
  | [], [], _, h => by
    show okTs rs [t] [s] k
    rw [okTs]
    exact ⟨h, by rw [okTs]; trivial⟩
  | t' :: ts, s' :: ss, h, h' => by
    rw [okTs] at h
    show okTs rs (t' :: (ts ++ [t])) (s' :: (ss ++ [s])) k
    rw [okTs]
    exact ⟨h.1, okTs_snoc h.2 h'⟩
  | [], _ :: _, h, _ => by rw [okTs] at h; exact h.elim
  | _ :: _, [], h, _ => by rw [okTs] at h; exact h.elim
/-! ### the world of the law -/
def masterB (k1 k2 k3 : Kd) (f0 f1 g0 g1 g2 a0 a1 b0 b1 : Kd) : List Rw :=
  [.unk "p" .truth, .unk "q" .truth, .unk "x" .fraction, .unk "y" .fraction, .unk "n" k3, .unk "m" k3, .unk "t" k1, .unk "u" k2,
   .fun_ "f" [f0] f1, .fun_ "g" [g0, g1] g2, .row "a" a0 a1, .row "b" b0 b1]
structure WoB (rs : List Rw) (m1 m2 lo hi : Int) : Prop where
  ok : ∃ f0 f1 g0 g1 g2 a0 a1 b0 b1, (∀ k ∈ [f0, g0, g1, a0, a1, b0, b1], k = Kd.fraction ∨ k = .table m1 ∨ k = .table m2) ∧ (∀ k ∈ [f1, g2], k = Kd.fraction ∨ k = .table m1 ∨ k = .table m2 ∨ k = .range lo hi) ∧ rs.Perm (masterB (.table m1) (.table m2) (.range lo hi) f0 f1 g0 g1 g2 a0 a1 b0 b1)
  m1 : 2 ≤ m1 ∧ m1 ≤ 5
  m2 : 2 ≤ m2 ∧ m2 ≤ 5
  ra : -50 ≤ lo ∧ lo ≤ 50 ∧ lo ≤ hi ∧ hi ≤ 50 ∧ hi ≤ lo + 16
def So.okB (m1 m2 : Int) (s : So) : Prop := s = .num ∨ s = .tab m1 ∨ s = .tab m2
section
variable {rs : List Rw} {m1 m2 lo hi : Int}
theorem WoB.len (w : WoB rs m1 m2 lo hi) : rs.length = 12 := by
  obtain ⟨f0, f1, g0, g1, g2, a0, a1, b0, b1, _, _, h⟩ := w.ok
  rw [h.length_eq]; rfl
theorem WoB.unk (w : WoB rs m1 m2 lo hi) {nm : PySem.Str} {k : Kd} (h : .unk nm k ∈ rs) : (nm = "p" ∨ nm = "q") ∧ k = .truth ∨ (nm = "x" ∨ nm = "y") ∧ k = .fraction ∨ (nm = "n" ∨ nm = "m") ∧ k = .range lo hi ∨ nm = "t" ∧ k = .table m1 ∨ nm = "u" ∧ k = .table m2 := by
  obtain ⟨f0, f1, g0, g1, g2, a0, a1, b0, b1, _, _, hp⟩ := w.ok
  have := hp.mem_iff.mp h
  simp only [masterB, List.mem_cons, Rw.unk.injEq, reduceCtorEq, List.not_mem_nil, or_false] at this
  rcases this with ⟨rfl, rfl⟩ | ⟨rfl, rfl⟩ | ⟨rfl, rfl⟩ | ⟨rfl, rfl⟩ | ⟨rfl, rfl⟩ | ⟨rfl, rfl⟩ | ⟨rfl, rfl⟩ | ⟨rfl, rfl⟩ <;> simp
theorem WoB.fun_ (w : WoB rs m1 m2 lo hi) {nm : PySem.Str} {ks : List Kd} {k : Kd} (h : .fun_ nm ks k ∈ rs) : 1 ≤ ks.length ∧ ks.length ≤ 2 ∧ (∀ q ∈ ks, q = .fraction ∨ q = .table m1 ∨ q = .table m2) ∧ (k = .fraction ∨ k = .table m1 ∨ k = .table m2 ∨ k = .range lo hi) ∧ (nm = "f" ∨ nm = "g") := by
  obtain ⟨f0, f1, g0, g1, g2, a0, a1, b0, b1, h1, h2, hp⟩ := w.ok
  have := hp.mem_iff.mp h
  simp only [masterB, List.mem_cons, Rw.fun_.injEq, reduceCtorEq, List.not_mem_nil, or_false, false_or] at this
  rcases this with ⟨rfl, rfl, rfl⟩ | ⟨rfl, rfl, rfl⟩
  · exact ⟨by simp, by simp, fun q m => h1 q (by simp at m; simp [m]), h2 k (by simp), .inl rfl⟩
  · refine ⟨by simp, by simp, fun q m => h1 q ?_, h2 k (by simp), .inr rfl⟩
    simp only [List.mem_cons, List.not_mem_nil, or_false] at m
    rcases m with rfl | rfl <;> simp
theorem WoB.row (w : WoB rs m1 m2 lo hi) {nm : PySem.Str} {a b : Kd} (h : .row nm a b ∈ rs) : (a = .fraction ∨ a = .table m1 ∨ a = .table m2) ∧ (b = .fraction ∨ b = .table m1 ∨ b = .table m2) ∧ (nm = "a" ∨ nm = "b") := by
  obtain ⟨f0, f1, g0, g1, g2, a0, a1, b0, b1, h1, h2, hp⟩ := w.ok
  have := hp.mem_iff.mp h
  simp only [masterB, List.mem_cons, Rw.row.injEq, reduceCtorEq, List.not_mem_nil, or_false, false_or] at this
  rcases this with ⟨rfl, rfl, rfl⟩ | ⟨rfl, rfl, rfl⟩
  · exact ⟨h1 a (by simp), h1 b (by simp), .inl rfl⟩
  · exact ⟨h1 a (by simp), h1 b (by simp), .inr rfl⟩
theorem WoB.has (w : WoB rs m1 m2 lo hi) : .unk "x" .fraction ∈ rs ∧ .unk "t" (.table m1) ∈ rs ∧ .unk "u" (.table m2) ∈ rs ∧ .unk "p" .truth ∈ rs ∧ .unk "q" .truth ∈ rs := by
  obtain ⟨f0, f1, g0, g1, g2, a0, a1, b0, b1, h1, h2, hp⟩ := w.ok
  refine ⟨hp.mem_iff.mpr ?_, hp.mem_iff.mpr ?_, hp.mem_iff.mpr ?_, hp.mem_iff.mpr ?_, hp.mem_iff.mpr ?_⟩ <;> simp [masterB]
theorem place_so {k : Kd} (h : k = .fraction ∨ k = .table m1 ∨ k = .table m2) : ∃ s, k.so = some s ∧ s.okB m1 m2 := by
  rcases h with rfl | rfl | rfl
  · exact ⟨.num, rfl, .inl rfl⟩
  · exact ⟨.tab m1, rfl, .inr (.inl rfl)⟩
  · exact ⟨.tab m2, rfl, .inr (.inr rfl)⟩
theorem place_so' {k : Kd} (h : k = .fraction ∨ k = .table m1 ∨ k = .table m2 ∨ k = .range lo hi) : ∃ s, k.so = some s ∧ s.okB m1 m2 := by
  rcases h with rfl | rfl | rfl | rfl
  · exact ⟨.num, rfl, .inl rfl⟩
  · exact ⟨.tab m1, rfl, .inr (.inl rfl)⟩
  · exact ⟨.tab m2, rfl, .inr (.inr rfl)⟩
  · exact ⟨.num, rfl, .inl rfl⟩
end
end Pg
end
section
set_option Elab.async false
set_option linter.all false
set_option maxRecDepth 100000
set_option maxHeartbeats 8000000
namespace Ev
section
variable {g : G} {ρ : Env} {Z : Sto} {Q : D → Sto → Prop} {X : Nat → Sto → Prop} {Qn : Env → Sto → Prop}
theorem wp_then {s : PS} {ss : List PS} (ρ' : Env) (Z' : Sto) (h1 : ∀ Qn' : Env → Sto → Prop, Qn' ρ' Z' → wpS g s Qn' Q X ρ Z) (h2 : wpB g ss Qn Q X ρ' Z') : wpB g (s :: ss) Qn Q X ρ Z := by rw [wpB_cons]; exact h1 _ h2
theorem wp_ifT {c : PE} {a b ss : List PS} (h1 : ∀ (Q' : D → Sto → Prop) X', Q' (.bl true) Z → wpE g c Q' X' ρ Z) (h2 : wpB g a (fun ρ S => wpB g ss Qn Q X ρ S) Q X ρ Z) : wpB g (.ife c a b :: ss) Qn Q X ρ Z := by
  rw [wpB_cons, wpS_ife]
  refine h1 _ _ ?_
  simp only [truth_bl, wpO_some, wpT_true]
  exact h2
theorem wp_ifF {c : PE} {a b ss : List PS} (h1 : ∀ (Q' : D → Sto → Prop) X', Q' (.bl false) Z → wpE g c Q' X' ρ Z) (h2 : wpB g b (fun ρ S => wpB g ss Qn Q X ρ S) Q X ρ Z) : wpB g (.ife c a b :: ss) Qn Q X ρ Z := by
  rw [wpB_cons, wpS_ife]
  refine h1 _ _ ?_
  simp only [truth_bl, wpO_some, wpT_false]
  exact h2
end
end Ev
namespace Pg
open Ev
local macro_rules
  | `(tactic| simp! only [$as,*] $[$l]?) => `(tactic| simp only [wpB_cons, wpB_nil, wpS_set, wpS_setT, wpS_par, wpS_setI, wpS_expr, wpS_ret, wpS_ife, wpS_raise, wpS_try, wpS_aug, wpE_var, wpE_cst, wpE_tup, wpE_lst, wpE_dct0, wpE_bin, wpE_neg, wpE_not, wpE_and, wpE_or, wpE_cmp, wpE_cmp2, wpE_is, wpE_ife, wpE_idx, wpE_sl, wpE_call, wpE_blt, wpE_mth, wpE_isi, wpEs_nil, wpEs_cons, wpR_ok, wpR_ex, wpO_some, wpO_map, wpT_true, wpT_false, wpT_not, wpIfs_nil, wpIfs_one, getV_0, getV_s, List.set_cons_succ, List.set_cons_zero, g0_F, g0_isa, truth_non, truth_bl, truth_int, truth_tup, truth_lst, truth_fz, Option.map_some, Option.isSome_some, if_true, Bool.false_eq_true, if_false, Bool.not_true, Bool.not_false, isPart, setTg, setNames, bin_add, bin_sub, cmp_lt, cmp_gt, cmp_le, cmp_ge, cmp_eq, orD_some, cmp_ne, eq_int, eq_str, abs_int, tuple_seq, list_seq, seqOf_tup, seqOf_lst, seqOf_fz, seqOf_ref, int_bl, mdl, fdl, min2, max2, pu_non, pu_bl, pu_int, pu_str, pu_nil, pu_cons, pure_tup, Bool.and_self, Int.reduceLT, and_true, true_and, decide_true, decide_false, isC_b_non, isC_n_bl, isC_n_int, isC_b_int, isC_n_str, isC_b_str, isC_n_tup, isC_b_tup, isC_n_lst, isC_b_lst, isC_n_fz, isC_b_fz, isC_n_dct, isC_b_dct, isC_n_ref, isC_b_ref, isC_n_exc, isC_b_exc, isC_n_non, isC_true_true_true, isC_true_true_false, isC_true_false_true, isC_true_false_false, isC_false_true_true, isC_false_true_false, isC_false_false_true, isC_false_false_false, isTys_nil, isTys_c, isTy_exv, isTy_exc, isTy_non_int, isTy_non_str, isTy_non_tuple, isTy_non_list, isTy_non_dict, isTy_non_bool, isTy_bl_int, isTy_bl_str, isTy_bl_tuple, isTy_bl_list, isTy_bl_dict, isTy_bl_bool, isTy_int_int, isTy_int_str, isTy_int_tuple, isTy_int_list, isTy_int_dict, isTy_int_bool, isTy_str_int, isTy_str_str, isTy_str_tuple, isTy_str_list, isTy_str_dict, isTy_str_bool, isTy_tup_int, isTy_tup_str, isTy_tup_tuple, isTy_tup_list, isTy_tup_dict, isTy_tup_bool, isTy_lst_int, isTy_lst_str, isTy_lst_tuple, isTy_lst_list, isTy_lst_dict, isTy_lst_bool, isTy_fz_int, isTy_fz_str, isTy_fz_tuple, isTy_fz_list, isTy_fz_dict, isTy_fz_bool, isTy_dct_int, isTy_dct_str, isTy_dct_tuple, isTy_dct_list, isTy_dct_dict, isTy_dct_bool, Option.bind_some, settle_int, settle_str, settle_bl, settle_non, settle_ref, settle_fz, settle_exc, settle_tup, settle_lst, settle_dct, settles_nil, settles_cons, $as,*] $[$l]?)
variable {n : Nat} {S : Sto}
theorem c__law_cell_at {ns : List Int} {k : Nat} (hc : Cl S) : F (n + 1) 7 [.fz (ns.map .int), .int k] S = some (.ok (.int (ns.getD k 0)) S) := by
  refine wpR_is (e__law_cell_at (by simp only [settle_int, settle_str, settle_bl, settle_non, settle_ref, settle_fz, settle_exc, settle_tup, settle_lst, settle_dct, settles_nil, settles_cons]; rfl) ?_)
  unfold b__law_cell_at
  have hl : bltE S .len [.fz (ns.map .int)] = some (.int ns.length) := by rw [len_seq (ds := ns.map .int) rfl]; simp
  simp! only [hl]
  refine wpT_d (fun h => ?_) fun h => ?_
  · have h' : k < ns.length := by omega
    have hi : idxE S (.fz (ns.map .int)) (.int k) = some (.int (ns.getD k 0)) := by
      rw [idx_f, atI_nat]
      simp [h']
    simp! only [hi, leave_int0 hc, leave_int hc, leave_bl0 hc, leave_bl hc, leave_str0 hc, leave_str hc, leave_non0 hc, leave_non hc, leave_tup0 hc, leave_tup hc, takeX hc, takeX0 hc]
  · have h' : ¬ k < ns.length := by omega
    simp! only [leave_int0 hc, leave_int hc, leave_bl0 hc, leave_bl hc, leave_str0 hc, leave_str hc, leave_non0 hc, leave_non hc, leave_tup0 hc, leave_tup hc, takeX hc, takeX0 hc]
    simp [h']
theorem c__law_stream {m : Nat} {c : Int} (hm : m ≤ 1000) (hc : Cl S) : ∃ xs : List Int, xs.length = m ∧ Str1 xs ∧ F (n + 1) 8 [.int c, .int m] S = some (.ok (.lst (xs.map .int)) S) := by
  have key : wpR (fun a S' => ∃ xs : List Int, xs.length = m ∧ Str1 xs ∧ a = .lst (xs.map .int) ∧ S' = S) (fun _ _ => False) (F (n + 1) 8 [.int c, .int m] S) := by
    refine e__law_stream (by simp only [settle_int, settle_str, settle_bl, settle_non, settle_ref, settle_fz, settle_exc, settle_tup, settle_lst, settle_dct, settles_nil, settles_cons]; rfl) ?_
    unfold b__law_stream
    simp! only [wpB_nil]
    refine wp_for (fun k ρ S' => ∃ (xs : List Int) (left : Int) (kv : Option D), xs.length = k ∧ Str1 xs ∧ ρ = [some (.int c), some (.int m), some (.ref S.length), some (.int left), kv, none, none, none] ∧ S' = S ++ [.lst (xs.map .int)]) ?_
    simp! only [wpB_nil]
    refine ⟨_, none, items_r1 (by omega) (by omega), rng_settled, ⟨[], _, none, rfl, by simp [Str1], rfl, rfl⟩, fun _ _ _ _ => trivial, ?_, ?_⟩
    · rintro k d ρ S' hd ⟨xs, left, kv, hx, hs, rfl, rfl⟩
      obtain ⟨rfl, hk⟩ := rng_at hd
      have hg : (S ++ [D.lst (xs.map .int)])[S.length]? = some (.lst (xs.map .int)) := by simp
      have b := fmod_bd (i := left) (j := 1000003) (by decide)
      simp! only [rcv_lst hg, app_lst hg (by simp; omega) (v := .int _) rfl, set_app0, List.set_cons_zero]
      refine ⟨xs ++ [left.fmod 1000003], left.fdiv 1000003, some (.int k), by simp [hx], ?_, rfl, by simp⟩
      intro x hx
      rcases List.mem_append.mp hx with hx | hx
      · exact hs x hx
      · have : x = left.fmod 1000003 := by simpa using hx
        omega
    · rintro ρ S' ⟨xs, left, kv, hx, hs, rfl, rfl⟩
      rw [rng_len] at hx
      simp! only [wpB_nil]
      refine wpT_d (fun hleft => ?_) fun hleft => ?_
      · simp! only [wpB_nil]
        rw [leave_l0 (S := S) (l := [.lst (xs.map .int)]) hc rfl (ints_pure xs)]
        exact ⟨xs, by simpa using hx, hs, rfl, rfl⟩
      · simp! only [List.length_append, List.length_cons, List.length_nil, List.append_assoc, List.cons_append, List.nil_append]
        refine wp_for (fun k ρ S' => ∃ (ys : List Int) (u v : Int) (kv : Option D), ys.length = k ∧ Str1 ys ∧ (0 ≤ u ∧ u < 2 ^ 40) ∧ (0 ≤ v ∧ v < 2 ^ 40) ∧ ρ = [some (.int c), some (.int m), some (.ref S.length), some (.int left), kv, some (.ref (S.length + 1)), some (.int u), some (.int v)] ∧ S' = S ++ [.lst (xs.map .int), .lst (ys.map .int)]) ?_
        simp! only [wpB_nil]
        have b1 := fmod_bd (i := c) (j := 2147483647) (by omega)
        have b2 := fmod_bd (i := c) (j := 2147483629) (by omega)
        refine ⟨_, none, items_r1 (by omega) (by omega), rng_settled, ⟨[], _, _, kv, rfl, by simp [Str1], ⟨by omega, by omega⟩, ⟨by omega, by omega⟩, rfl, rfl⟩, fun _ _ _ _ => trivial, ?_, ?_⟩
        · rintro k d ρ S' hd ⟨ys, u, v, kv, hy, hs2, hu, hv, rfl, rfl⟩
          obtain ⟨rfl, hk⟩ := rng_at hd
          have hg : (S ++ [D.lst (xs.map .int), .lst (ys.map .int)])[S.length + 1]? = some (.lst (ys.map .int)) := by rw [get_app]; rfl
          have q1 := fmod_bd (i := u * 48271) (j := 2147483647) (by omega)
          have q2 := fmod_bd (i := v * 69621 + k) (j := 2147483629) (by omega)
          have w1 : ∀ {S}, binE S .mul (.int u) (.int 48271) = some (.int (u * 48271)) := bin_mul (mul_small (by omega) (by decide))
          have w2 : ∀ {S}, binE S .mul (.int v) (.int 69621) = some (.int (v * 69621)) := bin_mul (mul_small (by omega) (by decide))
          simp! only [w1, w2, rcv_lst hg, app_lst hg (by simp; omega) (v := .int _) rfl, set_app, List.set_cons_zero, List.set_cons_succ]
          refine ⟨ys ++ [((u * 48271).fmod 2147483647 + (v * 69621 + k).fmod 2147483629).fdiv 7], _, _, some (.int k), by simp [hy], ?_, ⟨q1.1, by omega⟩, ⟨q2.1, by omega⟩, rfl, by simp⟩
          intro x hx
          rcases List.mem_append.mp hx with hx | hx
          · exact hs2 x hx
          · have e : x = ((u * 48271).fmod 2147483647 + (v * 69621 + k).fmod 2147483629).fdiv 7 := by simpa using hx
            rw [Int.fdiv_eq_ediv_of_nonneg _ (by decide)] at e
            omega
        · rintro ρ S' ⟨ys, u, v, kv, hy, hs2, hu, hv, rfl, rfl⟩
          rw [rng_len] at hy
          simp! only [wpB_nil]
          rw [leave_lst (S := S) (l := [.lst (xs.map .int), .lst (ys.map .int)]) (k := 1) hc rfl (ints_pure ys)]
          exact ⟨ys, by simpa using hy, hs2, rfl, rfl⟩
  obtain ⟨a, S', e, xs, h1, h2, rfl, rfl⟩ := wpR_out key
  exact ⟨xs, h1, h2, e⟩
theorem c__law_take {i : Nat} {xs : List Int} (hc : Cl S) (hS : S[i]? = some (.lst (xs.map .int))) : ∃ (x : Int) (xs' : List Int), F (n + 1) 9 [.ref i] S = some (.ok (.int x) (S.set i (.lst (xs'.map .int)))) := by
  have key : wpR (fun t S' => ∃ (x : Int) (xs' : List Int), t = .int x ∧ S' = S.set i (.lst (xs'.map .int))) (fun _ _ => False) (F (n + 1) 9 [.ref i] S) := by
    refine e__law_take (by simp only [settle_int, settle_str, settle_bl, settle_non, settle_ref, settle_fz, settle_exc, settle_tup, settle_lst, settle_dct, settles_nil, settles_cons]; rfl) ?_
    unfold b__law_take
    have hl := len_ref hS
    rw [List.length_map] at hl
    rcases List.eq_nil_or_concat xs with rfl | ⟨ys, y, rfl⟩
    · simp! only [hl, List.length_nil, Int.natCast_zero, leave_int0 hc, leave_int hc, leave_bl0 hc, leave_bl hc, leave_str0 hc, leave_str hc, leave_non0 hc, leave_non hc, leave_tup0 hc, leave_tup hc, takeX hc, takeX0 hc]
      exact ⟨0, [], by first | rfl | trivial, (set_same hS).symm⟩
    · have hm : (ys.concat y).map D.int = ys.map D.int ++ [D.int y] := by simp
      have h0 : ¬ (((ys.concat y).length : Nat) : Int) = 0 := by simp; omega
      rw [hm] at hS
      have hp : mthE .pop (.ref i) [] S = some (.int y, S.set i (.lst (ys.map .int))) := by
        rw [mth_pop, hS]
        simp
      simp! only [hl, h0, rcv_popl hS, hp]
      rw [leave_si0 hc rfl]
      exact ⟨y, ys, rfl, rfl⟩
  obtain ⟨a, S', e, x, xs', rfl, rfl⟩ := wpR_out key
  exact ⟨x, xs', e⟩
theorem c__law_sort (k : Kd) {s : So} (hk : k.so = some s) (hc : Cl S) : F (n + 1) 16 [k.d] S = some (.ok s.d S) := by
  refine wpR_is (e__law_sort (by simp only [settle_int, settle_str, settle_bl, settle_non, settle_ref, settle_fz, settle_exc, settle_tup, settle_lst, settle_dct, settles_nil, settles_cons, kd_settle]; rfl) ?_)
  unfold b__law_sort
  have h1 : decide (("range" : PySem.Str) = "table") = false := by decide
  have h2 : decide (("fraction" : PySem.Str) = "table") = false := by decide
  cases k with
  | truth => cases hk
  | range a b => cases hk; simp! only [Kd.d, get_app, get_app0, set_app, set_app0, mutOf_r, listOf_r, dictOf_r, idx_r, idx_l, idx_f, idx_tup, mth_append, mth_pop, rcv_append, rcv_pop, rcv_extend, atI_0, atI_1, atI_2, atI_3, atI_4, add_rl, add_lr, add_ll, List.getElem?_cons_zero, List.getElem?_cons_succ, leave_int0 hc, leave_int hc, leave_bl0 hc, leave_bl hc, leave_str0 hc, leave_str hc, leave_non0 hc, leave_non hc, leave_tup0 hc, leave_tup hc, takeX hc, takeX0 hc, h1]; rfl
  | fraction => cases hk; simp! only [Kd.d, get_app, get_app0, set_app, set_app0, mutOf_r, listOf_r, dictOf_r, idx_r, idx_l, idx_f, idx_tup, mth_append, mth_pop, rcv_append, rcv_pop, rcv_extend, atI_0, atI_1, atI_2, atI_3, atI_4, add_rl, add_lr, add_ll, List.getElem?_cons_zero, List.getElem?_cons_succ, leave_int0 hc, leave_int hc, leave_bl0 hc, leave_bl hc, leave_str0 hc, leave_str hc, leave_non0 hc, leave_non hc, leave_tup0 hc, leave_tup hc, takeX hc, takeX0 hc, h2]; rfl
  | table k => cases hk; simp! only [Kd.d, get_app, get_app0, set_app, set_app0, mutOf_r, listOf_r, dictOf_r, idx_r, idx_l, idx_f, idx_tup, mth_append, mth_pop, rcv_append, rcv_pop, rcv_extend, atI_0, atI_1, atI_2, atI_3, atI_4, add_rl, add_lr, add_ll, List.getElem?_cons_zero, List.getElem?_cons_succ, leave_int0 hc, leave_int hc, leave_bl0 hc, leave_bl hc, leave_str0 hc, leave_str hc, leave_non0 hc, leave_non hc, leave_tup0 hc, leave_tup hc, takeX hc, takeX0 hc]; rfl
theorem c__law_divisor {a b : Int} (hb : 0 ≤ b) (hc : Cl S) : F (n + 1) 11 [.int a, .int b] S = some (.ok (.int (Int.gcd a b : Nat)) S) := by
  refine wpR_is (e__law_divisor (by simp only [settle_int, settle_str, settle_bl, settle_non, settle_ref, settle_fz, settle_exc, settle_tup, settle_lst, settle_dct, settles_nil, settles_cons]; rfl) ?_)
  unfold b__law_divisor
  rw [wpB_cons]
  refine wp_while (fun m ρ S' => ∃ (u : Int) (v : Nat), v = m ∧ Int.gcd u v = Int.gcd a b ∧ ρ = [some (.int u), some (.int v)] ∧ S' = S) ?_ b.natAbs _ _ ⟨a, b.natAbs, rfl, by
    have : (b.natAbs : Int) = b := by omega
    rw [this], by
    have : (b.natAbs : Int) = b := by omega
    rw [this], rfl⟩
  rintro m ρ S' ⟨u, v, rfl, hg, rfl, rfl⟩
  simp! only [wpB_nil]
  refine wpT_d (fun h => ?_) fun h => ?_
  · have hv : v = 0 := by omega
    subst hv
    have e : (if u < 0 then -u else u) = ((Int.gcd a b : Nat) : Int) := by
      rw [← hg]
      simp only [Int.natCast_zero, Int.gcd_zero_right]
      split <;> omega
    simp! only [e, leave_int0 hc, leave_int hc, leave_bl0 hc, leave_bl hc, leave_str0 hc, leave_str hc, leave_non0 hc, leave_non hc, leave_tup0 hc, leave_tup hc, takeX hc, takeX0 hc]
  · have hv : (v : Int) ≠ 0 := h
    have b1 := fmod_bd (i := u) (j := (v : Int)) (by omega)
    simp! only [bin_mod hv]
    refine ⟨(u.fmod v).toNat, by omega, v, (u.fmod v).toNat, rfl, ?_, ?_⟩
    · have e1 : (((u.fmod v).toNat : Nat) : Int) = u % v := by
        rw [Int.fmod_eq_emod_of_nonneg _ (by omega)] at b1 ⊢
        omega
      rw [e1, ← hg, Int.gcd_comm u]
      have e2 := Int.gcd_add_mul_left_right (v : Int) (u % v) (u / v)
      rw [Int.emod_add_mul_ediv] at e2
      exact e2.symm
    · have e1 : (((u.fmod v).toNat : Nat) : Int) = u.fmod v := by omega
      rw [e1]
end Pg
end
section
set_option Elab.async false
set_option linter.all false
set_option maxRecDepth 100000
set_option maxHeartbeats 8000000
namespace Pg
open Ev
local macro_rules
  | `(tactic| simp! only [$as,*] $[$l]?) => `(tactic| simp only [wpB_cons, wpB_nil, wpS_set, wpS_setT, wpS_par, wpS_setI, wpS_expr, wpS_ret, wpS_ife, wpS_raise, wpS_try, wpS_aug, wpE_var, wpE_cst, wpE_tup, wpE_lst, wpE_dct0, wpE_bin, wpE_neg, wpE_not, wpE_and, wpE_or, wpE_cmp, wpE_cmp2, wpE_is, wpE_ife, wpE_idx, wpE_sl, wpE_call, wpE_blt, wpE_mth, wpE_isi, wpEs_nil, wpEs_cons, wpR_ok, wpR_ex, wpO_some, wpO_map, wpT_true, wpT_false, wpT_not, wpIfs_nil, wpIfs_one, getV_0, getV_s, List.set_cons_succ, List.set_cons_zero, g0_F, g0_isa, truth_non, truth_bl, truth_int, truth_tup, truth_lst, truth_fz, Option.map_some, Option.isSome_some, if_true, Bool.false_eq_true, if_false, Bool.not_true, Bool.not_false, isPart, setTg, setNames, bin_add, bin_sub, cmp_lt, cmp_gt, cmp_le, cmp_ge, cmp_eq, orD_some, cmp_ne, eq_int, eq_str, abs_int, tuple_seq, list_seq, seqOf_tup, seqOf_lst, seqOf_fz, seqOf_ref, int_bl, mdl, fdl, min2, max2, pu_non, pu_bl, pu_int, pu_str, pu_nil, pu_cons, pure_tup, Bool.and_self, Int.reduceLT, and_true, true_and, decide_true, decide_false, isC_b_non, isC_n_bl, isC_n_int, isC_b_int, isC_n_str, isC_b_str, isC_n_tup, isC_b_tup, isC_n_lst, isC_b_lst, isC_n_fz, isC_b_fz, isC_n_dct, isC_b_dct, isC_n_ref, isC_b_ref, isC_n_exc, isC_b_exc, isC_n_non, isC_true_true_true, isC_true_true_false, isC_true_false_true, isC_true_false_false, isC_false_true_true, isC_false_true_false, isC_false_false_true, isC_false_false_false, isTys_nil, isTys_c, isTy_exv, isTy_exc, isTy_non_int, isTy_non_str, isTy_non_tuple, isTy_non_list, isTy_non_dict, isTy_non_bool, isTy_bl_int, isTy_bl_str, isTy_bl_tuple, isTy_bl_list, isTy_bl_dict, isTy_bl_bool, isTy_int_int, isTy_int_str, isTy_int_tuple, isTy_int_list, isTy_int_dict, isTy_int_bool, isTy_str_int, isTy_str_str, isTy_str_tuple, isTy_str_list, isTy_str_dict, isTy_str_bool, isTy_tup_int, isTy_tup_str, isTy_tup_tuple, isTy_tup_list, isTy_tup_dict, isTy_tup_bool, isTy_lst_int, isTy_lst_str, isTy_lst_tuple, isTy_lst_list, isTy_lst_dict, isTy_lst_bool, isTy_fz_int, isTy_fz_str, isTy_fz_tuple, isTy_fz_list, isTy_fz_dict, isTy_fz_bool, isTy_dct_int, isTy_dct_str, isTy_dct_tuple, isTy_dct_list, isTy_dct_dict, isTy_dct_bool, Option.bind_some, settle_int, settle_str, settle_bl, settle_non, settle_ref, settle_fz, settle_exc, settle_tup, settle_lst, settle_dct, settles_nil, settles_cons, $as,*] $[$l]?)
variable {n : Nat} {S : Sto}
theorem div_ok {g b : Int} (h1 : 1 ≤ g) (h2 : g ≤ b) (hb : b.natAbs.log2 < 9000) : divOk g = true := by
  have h3 : g.natAbs.log2 ≤ b.natAbs.log2 := by
    have hb0 : b.natAbs ≠ 0 := by omega
    have hg0 : g.natAbs ≠ 0 := by omega
    have hlt := (Nat.log2_lt hb0).mp (Nat.lt_succ_self b.natAbs.log2)
    have := (Nat.log2_lt hg0).mpr (show g.natAbs < 2 ^ (b.natAbs.log2 + 1) by omega)
    omega
  unfold divOk
  rw [decide_eq_true (show g ≠ 0 by omega), decide_eq_true (show g.natAbs.log2 < 9000 by omega)]; rfl
theorem gcd_le {a b : Int} (hb : 1 ≤ b) : 1 ≤ ((Int.gcd a b : Nat) : Int) ∧ ((Int.gcd a b : Nat) : Int) ≤ b := by
  have h1 := Int.gcd_pos_of_ne_zero_right a (show b ≠ 0 by omega)
  have h2 := Nat.le_of_dvd (by omega) (Int.gcd_dvd_natAbs_right a b)
  omega
theorem c__law_reduced {a b : Int} (hb : 1 ≤ b) (hl : b.natAbs.log2 < 9000) (hc : Cl S) : F (n + 2) 12 [.int a, .int b] S = some (.ok (.tup [.int (a / (Int.gcd a b : Nat)), .int (b / (Int.gcd a b : Nat))]) S) := by
  refine wpR_is (e__law_reduced (by simp only [settle_int, settle_str, settle_bl, settle_non, settle_ref, settle_fz, settle_exc, settle_tup, settle_lst, settle_dct, settles_nil, settles_cons]; rfl) ?_)
  unfold b__law_reduced
  have q := c__law_divisor (n := n) (a := a) (b := b) (by omega) hc
  obtain ⟨g1, g2⟩ := gcd_le (a := a) hb
  have hd := div_ok g1 g2 hl
  have f1 : ∀ {x : Int} {S}, binE S .fdiv (.int x) (.int ((Int.gcd a b : Nat) : Int)) = some (.int (x / ((Int.gcd a b : Nat) : Int))) := fun {x S} => by
    rw [bin_fdiv hd, Int.fdiv_eq_ediv_of_nonneg _ (by omega)]
  simp! only [q, f1, leave_int0 hc, leave_int hc, leave_bl0 hc, leave_bl hc, leave_str0 hc, leave_str hc, leave_non0 hc, leave_non hc, leave_tup0 hc, leave_tup hc, takeX hc, takeX0 hc]
theorem log_small {b : Int} (h0 : 0 ≤ b) (h : b < 1048576) : b.natAbs.log2 < 9000 := by
  by_cases hz : b.natAbs = 0
  · rw [hz]; decide
  · have := (Nat.log2_lt hz).mpr (show b.natAbs < 2 ^ 20 by omega)
    omega
/-- what a reduced pair is -/
theorem red_ok {a b : Int} (hb : 1 ≤ b) : 1 ≤ b / (Int.gcd a b : Nat) ∧ b / (Int.gcd a b : Nat) ≤ b ∧ Int.gcd (a / (Int.gcd a b : Nat)) (b / (Int.gcd a b : Nat)) = 1 ∧ (a / (Int.gcd a b : Nat)).natAbs ≤ a.natAbs ∧ a = a / (Int.gcd a b : Nat) * (Int.gcd a b : Nat) ∧ b = b / (Int.gcd a b : Nat) * (Int.gcd a b : Nat) := by
  obtain ⟨g1, g2⟩ := gcd_le (a := a) hb
  obtain ⟨c, hc⟩ := Int.gcd_dvd_left a b
  obtain ⟨e, he⟩ := Int.gcd_dvd_right a b
  have hgp : 0 < Int.gcd a b := by omega
  have q1 : a / ((Int.gcd a b : Nat) : Int) = c := Int.ediv_eq_of_eq_mul_right (by omega) hc
  have q2 : b / ((Int.gcd a b : Nat) : Int) = e := Int.ediv_eq_of_eq_mul_right (by omega) he
  rw [q1, q2]
  have e1 : 1 ≤ e := by
    rcases (show e < 1 ∨ 1 ≤ e by omega) with h | h
    · have : ((Int.gcd a b : Nat) : Int) * e ≤ ((Int.gcd a b : Nat) : Int) * 0 := Int.mul_le_mul_of_nonneg_left (by omega) (by omega)
      omega
    · exact h
  refine ⟨e1, ?_, ?_, ?_, ?_, ?_⟩
  · have : 1 * e ≤ ((Int.gcd a b : Nat) : Int) * e := Int.mul_le_mul_of_nonneg_right g1 (by omega)
    omega
  · have hmul : Int.gcd (((Int.gcd a b : Nat) : Int) * c) (((Int.gcd a b : Nat) : Int) * e) = Int.gcd a b * Int.gcd c e := by
      rw [Int.gcd_mul_left]; simp
    rw [← hc, ← he] at hmul
    have : Int.gcd a b * 1 = Int.gcd a b * Int.gcd c e := by omega
    exact (Nat.eq_of_mul_eq_mul_left hgp this).symm
  · have h1 : a.natAbs = Int.gcd a b * c.natAbs := by
      have := congrArg Int.natAbs hc
      rw [Int.natAbs_mul] at this
      simpa using this
    have : 1 * c.natAbs ≤ Int.gcd a b * c.natAbs := Nat.mul_le_mul_right _ (by omega)
    omega
  · rw [Int.mul_comm]; exact hc
  · rw [Int.mul_comm]; exact he
theorem c_take0 {A : D} {l : Sto} {xs : List Int} (hc : Cl (S ++ (.lst (xs.map .int) :: l))) : ∃ (x : Int) (xs' : List Int), F (n + 1) 9 [.ref S.length] (S ++ (.lst (xs.map .int) :: l)) = some (.ok (.int x) (S ++ (.lst (xs'.map .int) :: l))) ∧ Cl (S ++ (.lst (xs'.map .int) :: l)) := by
  obtain ⟨x, xs', f⟩ := c__law_take (n := n) (i := S.length) (xs := xs) hc (by simp)
  rw [set_app0] at f
  have h := hc.ints (i := S.length) xs'
  rw [set_app0] at h
  exact ⟨x, xs', f, h⟩
theorem Cl.cons {A : D} {l : Sto} {ds : List D} (h : Cl (S ++ (A :: l))) (hp : pures ds = true) : Cl (S ++ (A :: (l ++ [.lst ds]))) := by
  have := h.lst hp
  simpa using this
theorem c__law_world {xs : List Int} (hc : Cl S) : ∃ rs m1 m2 lo hi, WoB rs m1 m2 lo hi ∧ F (n + 2) 10 [.lst (xs.map .int)] S = some (.ok (wd rs) S) := by
  have key : wpR (fun a S' => ∃ rs m1 m2 lo hi, WoB rs m1 m2 lo hi ∧ a = wd rs ∧ S' = S) (fun _ _ => False) (F (n + 2) 10 [.lst (xs.map .int)] S) := by
    refine e__law_world (by simp only [settle_int, settle_str, settle_bl, settle_non, settle_ref, settle_fz, settle_exc, settle_tup, settle_lst, settle_dct, settles_nil, settles_cons, settles_pure _ _ (ints_pure xs)]; rfl) ?_
    unfold b__law_world
    have hc0 : Cl (S ++ [D.lst (xs.map .int)]) := hc.lst (ints_pure xs)
    obtain ⟨y1, xs1, t1, hc1⟩ := c_take0 (n := n) (A := .non) hc0
    obtain ⟨y2, xs2, t2, hc2⟩ := c_take0 (n := n) (A := .non) hc1
    obtain ⟨y3, xs3, t3, hc3⟩ := c_take0 (n := n) (A := .non) hc2
    have b1 := fmod_bd (i := y1) (j := 4) (by decide)
    have b2 := fmod_bd (i := y2) (j := 101) (by decide)
    have b3 := fmod_bd (i := y3) (j := 17) (by decide)
    have b4 := fmod_bd (i := 2 + y1.fmod 4 - 1) (j := 4) (by decide)
    obtain ⟨m1, hm1, m1a, m1b⟩ : ∃ m1 : Int, 2 + y1.fmod 4 = m1 ∧ 2 ≤ m1 ∧ m1 ≤ 5 := ⟨_, rfl, by omega, by omega⟩
    rw [hm1] at b4
    obtain ⟨m2, hm2, m2a, m2b⟩ : ∃ m2 : Int, 2 + (m1 - 1).fmod 4 = m2 ∧ 2 ≤ m2 ∧ m2 ≤ 5 := ⟨_, rfl, by omega, by omega⟩
    obtain ⟨lo, hlo, lo1, lo2⟩ : ∃ lo : Int, y2.fmod 101 - 50 = lo ∧ -50 ≤ lo ∧ lo ≤ 50 := ⟨_, rfl, by omega, by omega⟩
    obtain ⟨hi, hhi, hi1, hi2, hi3⟩ : ∃ hi : Int, (if lo + y3.fmod 17 < 50 then lo + y3.fmod 17 else 50) = hi ∧ lo ≤ hi ∧ hi ≤ 50 ∧ hi ≤ lo + 16 := ⟨_, rfl, by split <;> omega, by split <;> omega, by split <;> omega⟩
    refine wp_then [some (.ref S.length), some (.int m1), none, none, none, none, none, none] (S ++ [.lst (xs1.map .int)]) (fun Qn' q => by simp! only [t1, hm1]; exact q) ?_
    refine wp_then [some (.ref S.length), some (.int m1), some (.int lo), none, none, none, none, none] (S ++ [.lst (xs2.map .int)]) (fun Qn' q => by simp! only [t2, hlo]; exact q) ?_
    refine wp_then [some (.ref S.length), some (.int m1), some (.int lo), some (.int hi), none, none, none, none] (S ++ [.lst (xs3.map .int)]) (fun Qn' q => by simp! only [t3, hhi]; exact q) ?_
    refine wp_then [some (.ref S.length), some (.int m1), some (.int lo), some (.int hi), some (.ref (S.length + 1)), none, none, none] (S ++ [.lst (xs3.map .int), .lst ([Kd.fraction, .table m1, .table m2, .range lo hi].map Kd.d)]) (fun Qn' q => by simp! only [hm2, List.length_append, List.length_cons, List.length_nil, Nat.zero_add, Nat.reduceAdd, List.append_assoc, List.cons_append, List.nil_append, Nat.reduceLeDiff, Nat.reduceLT]; exact q) ?_
    have hc4 : Cl (S ++ [D.lst (xs3.map .int), .lst ([Kd.fraction, .table m1, .table m2, .range lo hi].map Kd.d)]) := Cl.cons (l := []) hc3 (kds_pure _)
    refine wp_then [some (.ref S.length), some (.int m1), some (.int lo), some (.int hi), some (.ref (S.length + 1)), some (.ref (S.length + 2)), none, none] (S ++ [.lst (xs3.map .int), .lst ([Kd.fraction, .table m1, .table m2, .range lo hi].map Kd.d), .lst ([Rw.unk "p" .truth, .unk "q" .truth, .unk "x" .fraction].map Rw.d)]) (fun Qn' q => by simp! only [List.length_append, List.length_cons, List.length_nil, Nat.zero_add, Nat.reduceAdd, List.append_assoc, List.cons_append, List.nil_append, Nat.reduceLeDiff, Nat.reduceLT]; exact q) ?_
    have hc5 := Cl.cons hc4 (rws_pure [Rw.unk "p" .truth, .unk "q" .truth, .unk "x" .fraction])
    refine wp_then [some (.ref S.length), some (.int m1), some (.int lo), some (.int hi), some (.ref (S.length + 1)), some (.ref (S.length + 3)), none, none] (S ++ [.lst (xs3.map .int), .lst ([Kd.fraction, .table m1, .table m2, .range lo hi].map Kd.d), .lst ([Rw.unk "p" .truth, .unk "q" .truth, .unk "x" .fraction].map Rw.d), .lst ([Rw.unk "p" .truth, .unk "q" .truth, .unk "x" .fraction, .unk "y" .fraction, .unk "n" (.range lo hi), .unk "m" (.range lo hi)].map Rw.d)]) (fun Qn' q => by simp! only [get_app, get_app0, set_app, set_app0, mutOf_r, listOf_r, dictOf_r, idx_r, idx_l, idx_f, idx_tup, mth_append, mth_pop, rcv_append, rcv_pop, rcv_extend, atI_0, atI_1, atI_2, atI_3, atI_4, add_rl, add_lr, add_ll, List.getElem?_cons_zero, List.getElem?_cons_succ, List.length_append, List.length_cons, List.length_nil, Nat.zero_add, Nat.reduceAdd, List.append_assoc, List.cons_append, List.nil_append, Nat.reduceLeDiff, Nat.reduceLT, List.map_cons, List.map_nil, Kd.d, rw_settle]; exact q) ?_
    have hc6 := Cl.cons hc5 (rws_pure [Rw.unk "p" .truth, .unk "q" .truth, .unk "x" .fraction, .unk "y" .fraction, .unk "n" (.range lo hi), .unk "m" (.range lo hi)])
    refine wp_then [some (.ref S.length), some (.int m1), some (.int lo), some (.int hi), some (.ref (S.length + 1)), some (.ref (S.length + 4)), none, none] (S ++ [.lst (xs3.map .int), .lst ([Kd.fraction, .table m1, .table m2, .range lo hi].map Kd.d), .lst ([Rw.unk "p" .truth, .unk "q" .truth, .unk "x" .fraction].map Rw.d), .lst ([Rw.unk "p" .truth, .unk "q" .truth, .unk "x" .fraction, .unk "y" .fraction, .unk "n" (.range lo hi), .unk "m" (.range lo hi)].map Rw.d), .lst ([Rw.unk "p" .truth, .unk "q" .truth, .unk "x" .fraction, .unk "y" .fraction, .unk "n" (.range lo hi), .unk "m" (.range lo hi), .unk "t" (.table m1), .unk "u" (.table m2)].map Rw.d)]) (fun Qn' q => by simp! only [get_app, get_app0, set_app, set_app0, mutOf_r, listOf_r, dictOf_r, idx_r, idx_l, idx_f, idx_tup, mth_append, mth_pop, rcv_append, rcv_pop, rcv_extend, atI_0, atI_1, atI_2, atI_3, atI_4, add_rl, add_lr, add_ll, List.getElem?_cons_zero, List.getElem?_cons_succ, List.length_append, List.length_cons, List.length_nil, Nat.zero_add, Nat.reduceAdd, List.append_assoc, List.cons_append, List.nil_append, Nat.reduceLeDiff, Nat.reduceLT, List.map_cons, List.map_nil, Kd.d, rw_settle]; exact q) ?_
    have hc7 := Cl.cons hc6 (rws_pure [Rw.unk "p" .truth, .unk "q" .truth, .unk "x" .fraction, .unk "y" .fraction, .unk "n" (.range lo hi), .unk "m" (.range lo hi), .unk "t" (.table m1), .unk "u" (.table m2)])
    simp only [List.nil_append, List.cons_append] at hc7
    obtain ⟨y4, xs4, t4, hc8⟩ := c_take0 (n := n) (A := .non) hc7
    obtain ⟨y5, xs5, t5, hc9⟩ := c_take0 (n := n) (A := .non) hc8
    clear t1 t2 t3 hc1 hc2 hc3 hc4 hc5 hc6
    have k3 : ∀ x : Int, ∃ k : Kd, (k = .fraction ∨ k = .table m1 ∨ k = .table m2) ∧ Ev.atI ([Kd.fraction, .table m1, .table m2, .range lo hi].map Kd.d) (x.fmod 3) = some k.d := fun x => by
      have b := fmod_bd (i := x) (j := 3) (by decide)
      have h : x.fmod 3 = 0 ∨ x.fmod 3 = 1 ∨ x.fmod 3 = 2 := by omega
      rcases h with h | h | h <;> rw [h]
      · exact ⟨.fraction, .inl rfl, rfl⟩
      · exact ⟨.table m1, .inr (.inl rfl), rfl⟩
      · exact ⟨.table m2, .inr (.inr rfl), rfl⟩
    have k4 : ∀ x : Int, ∃ k : Kd, (k = .fraction ∨ k = .table m1 ∨ k = .table m2 ∨ k = .range lo hi) ∧ Ev.atI ([Kd.fraction, .table m1, .table m2, .range lo hi].map Kd.d) (x.fmod 4) = some k.d := fun x => by
      have b := fmod_bd (i := x) (j := 4) (by decide)
      have h : x.fmod 4 = 0 ∨ x.fmod 4 = 1 ∨ x.fmod 4 = 2 ∨ x.fmod 4 = 3 := by omega
      rcases h with h | h | h | h <;> rw [h]
      · exact ⟨.fraction, .inl rfl, rfl⟩
      · exact ⟨.table m1, .inr (.inl rfl), rfl⟩
      · exact ⟨.table m2, .inr (.inr (.inl rfl)), rfl⟩
      · exact ⟨.range lo hi, .inr (.inr (.inr rfl)), rfl⟩
    obtain ⟨f0, hf0, ef0⟩ := k3 y4
    obtain ⟨f1, hf1, ef1⟩ := k4 (y4.fdiv 3)
    obtain ⟨g0, hg0, eg0⟩ := k3 (y4.fdiv 12)
    obtain ⟨g1, hg1, eg1⟩ := k3 (y4.fdiv 36)
    obtain ⟨g2, hg2, eg2⟩ := k4 (y4.fdiv 108)
    obtain ⟨a0, ha0, ea0⟩ := k3 y5
    obtain ⟨a1, ha1, ea1⟩ := k3 (y5.fdiv 3)
    obtain ⟨b0, hb0, eb0⟩ := k3 (y5.fdiv 9)
    obtain ⟨b1', hb1, eb1⟩ := k3 (y5.fdiv 27)
    generalize ([Kd.fraction, .table m1, .table m2, .range lo hi].map Kd.d) = K at *
    generalize hA : D.lst ([Rw.unk "p" .truth, .unk "q" .truth, .unk "x" .fraction].map Rw.d) = A at *
    generalize hB : D.lst ([Rw.unk "p" .truth, .unk "q" .truth, .unk "x" .fraction, .unk "y" .fraction, .unk "n" (.range lo hi), .unk "m" (.range lo hi)].map Rw.d) = B at *
    refine wp_then [some (.ref S.length), some (.int m1), some (.int lo), some (.int hi), some (.ref (S.length + 1)), some (.ref (S.length + 4)), some (.int y4), none] (S ++ [.lst (xs4.map .int), .lst K, A, B, .lst ([Rw.unk "p" .truth, .unk "q" .truth, .unk "x" .fraction, .unk "y" .fraction, .unk "n" (.range lo hi), .unk "m" (.range lo hi), .unk "t" (.table m1), .unk "u" (.table m2)].map Rw.d)]) (fun Qn' q => by simp! only [t4]; exact q) ?_
    refine wp_then [some (.ref S.length), some (.int m1), some (.int lo), some (.int hi), some (.ref (S.length + 1)), some (.ref (S.length + 4)), some (.int y4), none] (S ++ [.lst (xs4.map .int), .lst K, A, B, .lst ([Rw.unk "p" .truth, .unk "q" .truth, .unk "x" .fraction, .unk "y" .fraction, .unk "n" (.range lo hi), .unk "m" (.range lo hi), .unk "t" (.table m1), .unk "u" (.table m2), .fun_ "f" [f0] f1].map Rw.d)]) (fun Qn' q => by
      simp! only [get_app, get_app0, set_app, set_app0, mutOf_r, listOf_r, dictOf_r, idx_r, idx_l, idx_f, idx_tup, mth_append, mth_pop, rcv_append, rcv_pop, rcv_extend, atI_0, atI_1, atI_2, atI_3, atI_4, add_rl, add_lr, add_ll, List.getElem?_cons_zero, List.getElem?_cons_succ, ef0, ef1, kd_settle, List.map_cons, List.map_nil, List.length_cons, List.length_nil, Nat.reduceAdd, Nat.reduceLT, List.cons_append, List.nil_append]; exact q) ?_
    refine wp_then [some (.ref S.length), some (.int m1), some (.int lo), some (.int hi), some (.ref (S.length + 1)), some (.ref (S.length + 4)), some (.int y4), none] (S ++ [.lst (xs4.map .int), .lst K, A, B, .lst ([Rw.unk "p" .truth, .unk "q" .truth, .unk "x" .fraction, .unk "y" .fraction, .unk "n" (.range lo hi), .unk "m" (.range lo hi), .unk "t" (.table m1), .unk "u" (.table m2), .fun_ "f" [f0] f1, .fun_ "g" [g0, g1] g2].map Rw.d)]) (fun Qn' q => by
      simp! only [get_app, get_app0, set_app, set_app0, mutOf_r, listOf_r, dictOf_r, idx_r, idx_l, idx_f, idx_tup, mth_append, mth_pop, rcv_append, rcv_pop, rcv_extend, atI_0, atI_1, atI_2, atI_3, atI_4, add_rl, add_lr, add_ll, List.getElem?_cons_zero, List.getElem?_cons_succ, eg0, eg1, eg2, kd_settle, List.map_cons, List.map_nil, List.length_cons, List.length_nil, Nat.reduceAdd, Nat.reduceLT, List.cons_append, List.nil_append]; exact q) ?_
    have hc10 : ∀ ys : List Int, Cl (S ++ [D.lst (ys.map .int), .lst K, A, B, .lst ([Rw.unk "p" .truth, .unk "q" .truth, .unk "x" .fraction, .unk "y" .fraction, .unk "n" (.range lo hi), .unk "m" (.range lo hi), .unk "t" (.table m1), .unk "u" (.table m2), .fun_ "f" [f0] f1, .fun_ "g" [g0, g1] g2].map Rw.d)]) := fun ys => by
      have h1 := hc8.ints (i := S.length) ys
      rw [set_app0] at h1
      have h2 := h1.set (i := S.length + 4) (d := .lst ([Rw.unk "p" .truth, .unk "q" .truth, .unk "x" .fraction, .unk "y" .fraction, .unk "n" (.range lo hi), .unk "m" (.range lo hi), .unk "t" (.table m1), .unk "u" (.table m2), .fun_ "f" [f0] f1, .fun_ "g" [g0, g1] g2].map Rw.d)) (by unfold D.under; exact pures_under _ _ (rws_pure _))
      rw [set_app] at h2
      exact h2
    obtain ⟨y6, xs6, t6, hc11⟩ := c_take0 (n := n) (A := .non) (hc10 xs4)
    clear t5 hc9
    obtain ⟨a0, ha0, ea0⟩ := k3 y6
    obtain ⟨a1, ha1, ea1⟩ := k3 (y6.fdiv 3)
    obtain ⟨b0, hb0, eb0⟩ := k3 (y6.fdiv 9)
    obtain ⟨b1', hb1, eb1⟩ := k3 (y6.fdiv 27)
    refine wp_then [some (.ref S.length), some (.int m1), some (.int lo), some (.int hi), some (.ref (S.length + 1)), some (.ref (S.length + 4)), some (.int y6), none] (S ++ [.lst (xs6.map .int), .lst K, A, B, .lst ([Rw.unk "p" .truth, .unk "q" .truth, .unk "x" .fraction, .unk "y" .fraction, .unk "n" (.range lo hi), .unk "m" (.range lo hi), .unk "t" (.table m1), .unk "u" (.table m2), .fun_ "f" [f0] f1, .fun_ "g" [g0, g1] g2].map Rw.d)]) (fun Qn' q => by simp! only [t6]; exact q) ?_
    refine wp_then [some (.ref S.length), some (.int m1), some (.int lo), some (.int hi), some (.ref (S.length + 1)), some (.ref (S.length + 4)), some (.int y6), none] (S ++ [.lst (xs6.map .int), .lst K, A, B, .lst ([Rw.unk "p" .truth, .unk "q" .truth, .unk "x" .fraction, .unk "y" .fraction, .unk "n" (.range lo hi), .unk "m" (.range lo hi), .unk "t" (.table m1), .unk "u" (.table m2), .fun_ "f" [f0] f1, .fun_ "g" [g0, g1] g2, .row "a" a0 a1].map Rw.d)]) (fun Qn' q => by
      simp! only [get_app, get_app0, set_app, set_app0, mutOf_r, listOf_r, dictOf_r, idx_r, idx_l, idx_f, idx_tup, mth_append, mth_pop, rcv_append, rcv_pop, rcv_extend, atI_0, atI_1, atI_2, atI_3, atI_4, add_rl, add_lr, add_ll, List.getElem?_cons_zero, List.getElem?_cons_succ, ea0, ea1, kd_settle, List.map_cons, List.map_nil, List.length_cons, List.length_nil, Nat.reduceAdd, Nat.reduceLT, List.cons_append, List.nil_append]; exact q) ?_
    refine wp_then [some (.ref S.length), some (.int m1), some (.int lo), some (.int hi), some (.ref (S.length + 1)), some (.ref (S.length + 4)), some (.int y6), none] (S ++ [.lst (xs6.map .int), .lst K, A, B, .lst ((masterB (.table m1) (.table m2) (.range lo hi) f0 f1 g0 g1 g2 a0 a1 b0 b1').map Rw.d)]) (fun Qn' q => by
      simp! only [get_app, get_app0, set_app, set_app0, mutOf_r, listOf_r, dictOf_r, idx_r, idx_l, idx_f, idx_tup, mth_append, mth_pop, rcv_append, rcv_pop, rcv_extend, atI_0, atI_1, atI_2, atI_3, atI_4, add_rl, add_lr, add_ll, List.getElem?_cons_zero, List.getElem?_cons_succ, eb0, eb1, kd_settle, List.map_cons, List.map_nil, List.length_cons, List.length_nil, Nat.reduceAdd, Nat.reduceLT, List.cons_append, List.nil_append]; exact q) ?_
    have hlen : ((masterB (.table m1) (.table m2) (.range lo hi) f0 f1 g0 g1 g2 a0 a1 b0 b1').map Rw.d).length = 12 := rfl
    have hg : (S ++ [D.lst (xs6.map .int), .lst K, A, B, .lst ((masterB (.table m1) (.table m2) (.range lo hi) f0 f1 g0 g1 g2 a0 a1 b0 b1').map Rw.d)])[S.length + 4]? = some (.lst ((masterB (.table m1) (.table m2) (.range lo hi) f0 f1 g0 g1 g2 a0 a1 b0 b1').map Rw.d)) := by rw [get_app]; rfl
    have b12 := fmod_bd (i := y6.fdiv 81) (j := 12) (by decide)
    have ln := len_ref hg
    rw [hlen] at ln
    have ln' : bltE (S ++ [D.lst (xs6.map .int), .lst K, A, B, .lst ((masterB (.table m1) (.table m2) (.range lo hi) f0 f1 g0 g1 g2 a0 a1 b0 b1').map Rw.d)]) .len [.ref (S.length + 4)] = some (.int 12) := ln
    simp! only [ln', sl_from hg b12.1, sl_to hg b12.1]
    rw [add_l (by rw [List.length_drop, List.length_take, hlen]; omega)]
    simp! only [← List.map_drop, ← List.map_take, ← List.map_append]
    rw [leave_pu0 hc (wd_pure _)]
    refine ⟨_, m1, m2, lo, hi, ⟨⟨f0, f1, g0, g1, g2, a0, a1, b0, b1', ?_, ?_, ?_⟩, ⟨m1a, m1b⟩, ⟨m2a, m2b⟩, ⟨lo1, lo2, hi1, hi2, hi3⟩⟩, rfl, rfl⟩
    · simp only [List.forall_mem_cons]
      exact ⟨hf0, hg0, hg1, ha0, ha1, hb0, hb1, fun _ h => nomatch h⟩
    · simp only [List.forall_mem_cons]
      exact ⟨hf1, hg2, fun _ h => nomatch h⟩
    · have := List.perm_append_comm (l₁ := (masterB (.table m1) (.table m2) (.range lo hi) f0 f1 g0 g1 g2 a0 a1 b0 b1').drop ((y6.fdiv 81).fmod 12).toNat) (l₂ := (masterB (.table m1) (.table m2) (.range lo hi) f0 f1 g0 g1 g2 a0 a1 b0 b1').take ((y6.fdiv 81).fmod 12).toNat)
      rwa [List.take_append_drop] at this
  obtain ⟨a, S', e, rs, m1, m2, lo, hi, h1, rfl, rfl⟩ := wpR_out key
  exact ⟨rs, m1, m2, lo, hi, h1, e⟩
end Pg
end
section
set_option Elab.async false
set_option linter.all false
set_option maxRecDepth 100000
set_option maxHeartbeats 8000000
namespace Pg
open Ev
local macro_rules
  | `(tactic| simp! only [$as,*] $[$l]?) => `(tactic| simp only [wpB_cons, wpB_nil, wpS_set, wpS_setT, wpS_par, wpS_setI, wpS_expr, wpS_ret, wpS_ife, wpS_raise, wpS_try, wpS_aug, wpE_var, wpE_cst, wpE_tup, wpE_lst, wpE_dct0, wpE_bin, wpE_neg, wpE_not, wpE_and, wpE_or, wpE_cmp, wpE_cmp2, wpE_is, wpE_ife, wpE_idx, wpE_sl, wpE_call, wpE_blt, wpE_mth, wpE_isi, wpEs_nil, wpEs_cons, wpR_ok, wpR_ex, wpO_some, wpO_map, wpT_true, wpT_false, wpT_not, wpIfs_nil, wpIfs_one, getV_0, getV_s, List.set_cons_succ, List.set_cons_zero, g0_F, g0_isa, truth_non, truth_bl, truth_int, truth_tup, truth_lst, truth_fz, Option.map_some, Option.isSome_some, if_true, Bool.false_eq_true, if_false, Bool.not_true, Bool.not_false, isPart, setTg, setNames, bin_add, bin_sub, cmp_lt, cmp_gt, cmp_le, cmp_ge, cmp_eq, orD_some, cmp_ne, eq_int, eq_str, abs_int, tuple_seq, list_seq, seqOf_tup, seqOf_lst, seqOf_fz, seqOf_ref, int_bl, mdl, fdl, min2, max2, pu_non, pu_bl, pu_int, pu_str, pu_nil, pu_cons, pure_tup, Bool.and_self, Int.reduceLT, and_true, true_and, decide_true, decide_false, isC_b_non, isC_n_bl, isC_n_int, isC_b_int, isC_n_str, isC_b_str, isC_n_tup, isC_b_tup, isC_n_lst, isC_b_lst, isC_n_fz, isC_b_fz, isC_n_dct, isC_b_dct, isC_n_ref, isC_b_ref, isC_n_exc, isC_b_exc, isC_n_non, isC_true_true_true, isC_true_true_false, isC_true_false_true, isC_true_false_false, isC_false_true_true, isC_false_true_false, isC_false_false_true, isC_false_false_false, isTys_nil, isTys_c, isTy_exv, isTy_exc, isTy_non_int, isTy_non_str, isTy_non_tuple, isTy_non_list, isTy_non_dict, isTy_non_bool, isTy_bl_int, isTy_bl_str, isTy_bl_tuple, isTy_bl_list, isTy_bl_dict, isTy_bl_bool, isTy_int_int, isTy_int_str, isTy_int_tuple, isTy_int_list, isTy_int_dict, isTy_int_bool, isTy_str_int, isTy_str_str, isTy_str_tuple, isTy_str_list, isTy_str_dict, isTy_str_bool, isTy_tup_int, isTy_tup_str, isTy_tup_tuple, isTy_tup_list, isTy_tup_dict, isTy_tup_bool, isTy_lst_int, isTy_lst_str, isTy_lst_tuple, isTy_lst_list, isTy_lst_dict, isTy_lst_bool, isTy_fz_int, isTy_fz_str, isTy_fz_tuple, isTy_fz_list, isTy_fz_dict, isTy_fz_bool, isTy_dct_int, isTy_dct_str, isTy_dct_tuple, isTy_dct_list, isTy_dct_dict, isTy_dct_bool, Option.bind_some, settle_int, settle_str, settle_bl, settle_non, settle_ref, settle_fz, settle_exc, settle_tup, settle_lst, settle_dct, settles_nil, settles_cons, $as,*] $[$l]?)
variable {n : Nat} {S : Sto}
section
variable {rs : List Rw} {m1 m2 lo hi : Int}
def pS (s : So) : Rw → Bool
  | .unk _ k => decide (k.so = some s)
  | _ => false
def unkD (r : Rw) : D := .tup [.str "unknown", .str r.nm]
theorem unks_pure (l : List Rw) : pures (l.map unkD) = true := pures_of fun x hx => by
  obtain ⟨r, _, rfl⟩ := List.mem_map.mp hx
  rfl
theorem filt_succ {p : Rw → Bool} {k : Nat} {r : Rw} (hr : rs[k]? = some r) : (rs.take (k + 1)).filter p = (rs.take k).filter p ++ (if p r then [r] else []) := by
  rw [List.take_succ, hr, List.filter_append]
  simp [List.filter_cons]
theorem pS_ne (w : WoB rs m1 m2 lo hi) {s : So} (hs : s.okB m1 m2) : rs.filter (pS s) ≠ [] := by
  obtain ⟨h1, h2, h3, _⟩ := w.has
  intro e
  rcases hs with rfl | rfl | rfl
  · have : Rw.unk "x" .fraction ∈ rs.filter (pS .num) := List.mem_filter.mpr ⟨h1, by simp [pS, Kd.so]⟩
    rw [e] at this; cases this
  · have : Rw.unk "t" (.table m1) ∈ rs.filter (pS (.tab m1)) := List.mem_filter.mpr ⟨h2, by simp [pS, Kd.so]⟩
    rw [e] at this; cases this
  · have : Rw.unk "u" (.table m2) ∈ rs.filter (pS (.tab m2)) := List.mem_filter.mpr ⟨h3, by simp [pS, Kd.so]⟩
    rw [e] at this; cases this
structure LfI (rs : List Rw) (s : So) (i : Nat) (x : Int) (T : Sto) (k : Nat) (ρ : Env) (Z : Sto) : Prop where
  ok : ∃ u5, Z = T ++ [.lst (((rs.take k).filter (pS s)).map unkD)] ∧ ρ = [some (wd rs), some s.d, some (.ref i), some (.int x), some (.ref T.length), u5, none, none]
/-- the loop of the leaf -/
theorem leaf_loop (w : WoB rs m1 m2 lo hi) {s : So} {i : Nat} {x : Int} {T : Sto} {Qn : Env → Sto → Prop} {Q : D → Sto → Prop} {X : Nat → Sto → Prop} (hc : Cl T) (hn : 1 ≤ n)
    (fin : ∀ u5, Qn [some (wd rs), some s.d, some (.ref i), some (.int x), some (.ref T.length), u5, none, none] (T ++ [.lst ((rs.filter (pS s)).map unkD)])) :
    wpB (g0 n) ((b__law_leaf.drop 2).take 1) Qn Q X [some (wd rs), some s.d, some (.ref i), some (.int x), some (.ref T.length), none, none, none] (T ++ [.lst []]) := by
  obtain ⟨n, rfl⟩ : ∃ m, n = m + 1 := ⟨n - 1, by omega⟩
  change wpB (g0 (n + 1)) [.for_ _ _ _ _] _ _ _ _ _
  rw [wpB_cons]
  refine wp_for (fun k ρ Z => LfI rs s i x T k ρ Z) ?_
  simp! only [wpB_nil]
  refine ⟨_, none, items_tup, pures_settled _ (rws_pure rs), ⟨_, rfl, rfl⟩, fun _ _ _ _ => trivial, ?_, ?_⟩
  · rintro k y ρ Z hd ⟨u5, rfl, rfl⟩
    rw [List.getElem?_map] at hd
    obtain ⟨r, hr, rfl⟩ := Option.map_eq_some_iff.mp hd
    have hk := (List.getElem?_eq_some_iff.mp hr).1
    have hwl := w.len
    change wpB (g0 (n + 1)) [.ife _ [.expr _] []] _ _ _ [some (wd rs), some s.d, some (.ref i), some (.int x), some (.ref T.length), some r.d, none, none] _
    have hc1 : Cl (T ++ [D.lst (((rs.take k).filter (pS s)).map unkD)]) := hc.lst (unks_pure _)
    have q1 : decide (("function" : PySem.Str) = "unknown") = false := by decide
    have q2 : decide (("row" : PySem.Str) = "unknown") = false := by decide
    have q3 : decide (("range" : PySem.Str) = "truth") = false := by decide
    have q4 : decide (("fraction" : PySem.Str) = "truth") = false := by decide
    have q5 : decide (("table" : PySem.Str) = "truth") = false := by decide
    have fs := filt_succ (p := pS s) hr
    cases r with
    | fun_ nm ks kd =>
      refine wp_ifF (fun Q' X' q => by simp! only [ix0, Rw.word, q1]; exact q) ?_
      rw [wpB_nil, wpB_nil]
      exact ⟨_, by rw [fs]; simp [pS], rfl⟩
    | row nm ks kd =>
      refine wp_ifF (fun Q' X' q => by simp! only [ix0, Rw.word, q2]; exact q) ?_
      rw [wpB_nil, wpB_nil]
      exact ⟨_, by rw [fs]; simp [pS], rfl⟩
    | unk nm kd =>
      have i2 : ∀ {S}, idxE S (Rw.unk nm kd).d (.int 2) = some kd.d := rfl
      have go : ∀ s', kd.so = some s' → (∀ {S}, ∃ tg : PySem.Str, idxE S kd.d (.int 0) = some (.str tg) ∧ decide (tg = "truth") = false) → LfI rs s i x T (k + 1) [some (wd rs), some s.d, some (.ref i), some (.int x), some (.ref T.length), some (Rw.unk nm kd).d, none, none] (if s' = s then T ++ [.lst (((rs.take k).filter (pS s)).map unkD ++ [unkD (.unk nm kd)])] else T ++ [.lst (((rs.take k).filter (pS s)).map unkD)]) := fun s' hs' _ => by
        refine ⟨_, ?_, rfl⟩
        rw [fs]
        by_cases e : s' = s
        · subst e; simp [pS, hs']
        · have : ¬ kd.so = some s := by rw [hs']; simpa using e
          simp [pS, this, e]
      cases hso : kd.so with
      | none =>
        have hkt : kd = .truth := by cases kd <;> first | rfl | cases hso
        subst hkt
        refine wp_ifF (fun Q' X' q => by simp! only [ix0, Rw.word, i2, Kd.d, get_app, get_app0, set_app, set_app0, mutOf_r, listOf_r, dictOf_r, idx_r, idx_l, idx_f, idx_tup, mth_append, mth_pop, rcv_append, rcv_pop, rcv_extend, atI_0, atI_1, atI_2, atI_3, atI_4, add_rl, add_lr, add_ll, List.getElem?_cons_zero, List.getElem?_cons_succ]; exact q) ?_
        rw [wpB_nil, wpB_nil]
        exact ⟨_, by rw [fs]; simp [pS, Kd.so], rfl⟩
      | some s' =>
        have cs := c__law_sort (n := n) kd hso hc1
        have eq : ∀ {S}, eqE S s'.d s.d = some (decide (s' = s)) := fun {S} => by
          have := eq_so (S := S) (a := some s') (b := some s)
          simpa [soD] using this
        have go' := go s' hso (fun {S} => by
          cases kd with
          | truth => cases hso
          | range a b => exact ⟨_, rfl, q3⟩
          | fraction => exact ⟨_, rfl, q4⟩
          | table k => exact ⟨_, rfl, q5⟩)
        have tst : ∀ (Q' : D → Sto → Prop) X', Q' (.bl (decide (s' = s))) (T ++ [D.lst (((rs.take k).filter (pS s)).map unkD)]) → wpE (g0 (n + 1)) (.and (.cmp .eq (.idx (.var 5) (.cst (.int 0))) (.cst (.str "unknown"))) (.and (.cmp .ne (.idx (.idx (.var 5) (.cst (.int 2))) (.cst (.int 0))) (.cst (.str "truth"))) (.cmp .eq (.call 16 [(.idx (.var 5) (.cst (.int 2)))]) (.var 1)))) Q' X' [some (wd rs), some s.d, some (.ref i), some (.int x), some (.ref T.length), some (Rw.unk nm kd).d, none, none] (T ++ [D.lst (((rs.take k).filter (pS s)).map unkD)]) := fun Q' X' q => by
          cases kd with
          | truth => cases hso
          | range a b => simp only [Kd.d] at cs i2; simp! only [ix0, Rw.word, i2, get_app, get_app0, set_app, set_app0, mutOf_r, listOf_r, dictOf_r, idx_r, idx_l, idx_f, idx_tup, mth_append, mth_pop, rcv_append, rcv_pop, rcv_extend, atI_0, atI_1, atI_2, atI_3, atI_4, add_rl, add_lr, add_ll, List.getElem?_cons_zero, List.getElem?_cons_succ, q3, cs, eq]; exact q
          | fraction => simp only [Kd.d] at cs i2; simp! only [ix0, Rw.word, i2, get_app, get_app0, set_app, set_app0, mutOf_r, listOf_r, dictOf_r, idx_r, idx_l, idx_f, idx_tup, mth_append, mth_pop, rcv_append, rcv_pop, rcv_extend, atI_0, atI_1, atI_2, atI_3, atI_4, add_rl, add_lr, add_ll, List.getElem?_cons_zero, List.getElem?_cons_succ, q4, cs, eq]; exact q
          | table k => simp only [Kd.d] at cs i2; simp! only [ix0, Rw.word, i2, get_app, get_app0, set_app, set_app0, mutOf_r, listOf_r, dictOf_r, idx_r, idx_l, idx_f, idx_tup, mth_append, mth_pop, rcv_append, rcv_pop, rcv_extend, atI_0, atI_1, atI_2, atI_3, atI_4, add_rl, add_lr, add_ll, List.getElem?_cons_zero, List.getElem?_cons_succ, q5, cs, eq]; exact q
        by_cases e : s' = s
        · rw [if_pos e] at go'
          refine wp_ifT (fun Q' X' q => tst Q' X' (by rw [decide_eq_true e]; exact q)) ?_
          have hll : (((rs.take k).filter (pS s)).map unkD).length < 16777216 := by
            rw [List.length_map]
            have := List.length_filter_le (pS s) (rs.take k)
            rw [List.length_take] at this
            omega
          simp! only [get_app, get_app0, set_app, set_app0, mutOf_r, listOf_r, dictOf_r, idx_r, idx_l, idx_f, idx_tup, mth_append, mth_pop, rcv_append, rcv_pop, rcv_extend, atI_0, atI_1, atI_2, atI_3, atI_4, add_rl, add_lr, add_ll, List.getElem?_cons_zero, List.getElem?_cons_succ, ix1, Rw.nm, hll]
          exact go'
        · rw [if_neg e] at go'
          refine wp_ifF (fun Q' X' q => tst Q' X' (by rw [decide_eq_false e]; exact q)) ?_
          rw [wpB_nil, wpB_nil]
          exact go'
  · rintro ρ Z ⟨u5, rfl, rfl⟩
    rw [List.length_map, List.take_length, wpB_nil]
    exact fin u5
end
end Pg
end
section
set_option Elab.async false
set_option linter.all false
set_option maxRecDepth 100000
set_option maxHeartbeats 8000000
namespace Pg
open Ev
local macro_rules
  | `(tactic| simp! only [$as,*] $[$l]?) => `(tactic| simp only [wpB_cons, wpB_nil, wpS_set, wpS_setT, wpS_par, wpS_setI, wpS_expr, wpS_ret, wpS_ife, wpS_raise, wpS_try, wpS_aug, wpE_var, wpE_cst, wpE_tup, wpE_lst, wpE_dct0, wpE_bin, wpE_neg, wpE_not, wpE_and, wpE_or, wpE_cmp, wpE_cmp2, wpE_is, wpE_ife, wpE_idx, wpE_sl, wpE_call, wpE_blt, wpE_mth, wpE_isi, wpEs_nil, wpEs_cons, wpR_ok, wpR_ex, wpO_some, wpO_map, wpT_true, wpT_false, wpT_not, wpIfs_nil, wpIfs_one, getV_0, getV_s, List.set_cons_succ, List.set_cons_zero, g0_F, g0_isa, truth_non, truth_bl, truth_int, truth_tup, truth_lst, truth_fz, Option.map_some, Option.isSome_some, if_true, Bool.false_eq_true, if_false, Bool.not_true, Bool.not_false, isPart, setTg, setNames, bin_add, bin_sub, cmp_lt, cmp_gt, cmp_le, cmp_ge, cmp_eq, orD_some, cmp_ne, eq_int, eq_str, abs_int, tuple_seq, list_seq, seqOf_tup, seqOf_lst, seqOf_fz, seqOf_ref, int_bl, mdl, fdl, min2, max2, pu_non, pu_bl, pu_int, pu_str, pu_nil, pu_cons, pure_tup, Bool.and_self, Int.reduceLT, and_true, true_and, decide_true, decide_false, isC_b_non, isC_n_bl, isC_n_int, isC_b_int, isC_n_str, isC_b_str, isC_n_tup, isC_b_tup, isC_n_lst, isC_b_lst, isC_n_fz, isC_b_fz, isC_n_dct, isC_b_dct, isC_n_ref, isC_b_ref, isC_n_exc, isC_b_exc, isC_n_non, isC_true_true_true, isC_true_true_false, isC_true_false_true, isC_true_false_false, isC_false_true_true, isC_false_true_false, isC_false_false_true, isC_false_false_false, isTys_nil, isTys_c, isTy_exv, isTy_exc, isTy_non_int, isTy_non_str, isTy_non_tuple, isTy_non_list, isTy_non_dict, isTy_non_bool, isTy_bl_int, isTy_bl_str, isTy_bl_tuple, isTy_bl_list, isTy_bl_dict, isTy_bl_bool, isTy_int_int, isTy_int_str, isTy_int_tuple, isTy_int_list, isTy_int_dict, isTy_int_bool, isTy_str_int, isTy_str_str, isTy_str_tuple, isTy_str_list, isTy_str_dict, isTy_str_bool, isTy_tup_int, isTy_tup_str, isTy_tup_tuple, isTy_tup_list, isTy_tup_dict, isTy_tup_bool, isTy_lst_int, isTy_lst_str, isTy_lst_tuple, isTy_lst_list, isTy_lst_dict, isTy_lst_bool, isTy_fz_int, isTy_fz_str, isTy_fz_tuple, isTy_fz_list, isTy_fz_dict, isTy_fz_bool, isTy_dct_int, isTy_dct_str, isTy_dct_tuple, isTy_dct_list, isTy_dct_dict, isTy_dct_bool, Option.bind_some, settle_int, settle_str, settle_bl, settle_non, settle_ref, settle_fz, settle_exc, settle_tup, settle_lst, settle_dct, settles_nil, settles_cons, $as,*] $[$l]?)
variable {n : Nat} {S : Sto}
section
variable {rs : List Rw} {m1 m2 lo hi : Int}
theorem c__law_leaf (w : WoB rs m1 m2 lo hi) {s : So} {i : Nat} {xs : List Int} (hs : s.okB m1 m2) (hc : Cl S) (hS : S[i]? = some (.lst (xs.map .int))) :
    ∃ (t : Trm) (xs' : List Int), okT rs t s 0 ∧ F (n + 3) 17 [wd rs, s.d, .ref i] S = some (.ok t.d (S.set i (.lst (xs'.map .int)))) := by
  have key : wpR (fun v S' => ∃ (t : Trm) (xs' : List Int), okT rs t s 0 ∧ v = t.d ∧ S' = S.set i (.lst (xs'.map .int))) (fun _ _ => False) (F (n + 3) 17 [wd rs, s.d, .ref i] S) := by
    refine e__law_leaf (by simp only [settle_int, settle_str, settle_bl, settle_non, settle_ref, settle_fz, settle_exc, settle_tup, settle_lst, settle_dct, settles_nil, settles_cons, settles_rw, so_settle]; rfl) ?_
    obtain ⟨x, xs1, f1⟩ := c__law_take (n := n + 1) hc hS
    have hc1 : Cl (S.set i (.lst (xs1.map .int))) := hc.ints xs1
    unfold b__law_leaf
    refine wp_then [some (wd rs), some s.d, some (.ref i), some (.int x), none, none, none, none] (S.set i (.lst (xs1.map .int))) (fun Qn' q => by simp! only [f1]; exact q) ?_
    refine wp_then [some (wd rs), some s.d, some (.ref i), some (.int x), some (.ref (S.set i (.lst (xs1.map .int))).length), none, none, none] (S.set i (.lst (xs1.map .int)) ++ [.lst []]) (fun Qn' q => by simp! only [wpB_nil]; exact q) ?_
    have hlen : (S.set i (D.lst (xs1.map .int))).length = S.length := by simp
    have lv : ∀ {t : D} {l : Sto}, t.pure = true → leave S.length t (S.set i (.lst (xs1.map .int)) ++ l) = some (.ok t (S.set i (.lst (xs1.map .int)))) := fun ht => leave_si hc ht
    generalize hT : S.set i (D.lst (xs1.map .int)) = T at hc1 lv hlen ⊢
    refine wp_split 1 (fun ρ Z => ∃ u5, ρ = [some (wd rs), some s.d, some (.ref i), some (.int x), some (.ref T.length), u5, none, none] ∧ Z = T ++ [.lst ((rs.filter (pS s)).map unkD)]) (leaf_loop w hc1 (by omega) fun u5 => ⟨u5, rfl, rfl⟩) ?_
    rintro ρ Z ⟨u5, rfl, rfl⟩
    change wpB (g0 (n + 2)) [.ife _ [_] [], .ife _ [_] [], _, _] _ _ _ _ _
    have hg : (T ++ [D.lst ((rs.filter (pS s)).map unkD)])[T.length]? = some (.lst ((rs.filter (pS s)).map unkD)) := by simp
    have hc2 : Cl (T ++ [D.lst ((rs.filter (pS s)).map unkD)]) := hc1.lst (unks_pure _)
    have ln := len_ref hg
    rw [List.length_map] at ln
    have hpos : 0 < (rs.filter (pS s)).length := List.length_pos_iff.mpr (pS_ne w hs)
    have b3 := fmod_bd (i := x) (j := 3) (by decide)
    by_cases h3 : 0 < x.fmod 3
    · refine wp_ifT (fun Q' X' q => by simp! only [h3]; exact q) ?_
      have bb := fmod_bd (i := x.fdiv 3) (j := ((rs.filter (pS s)).length : Int)) (by omega)
      have hm : ∀ {S}, binE S .mod (.int (x.fdiv 3)) (.int ((rs.filter (pS s)).length : Int)) = some (.int ((x.fdiv 3).fmod (rs.filter (pS s)).length)) := bin_mod (by omega)
      simp! only [ln, hm, idx_ref hg]
      refine wpO_atI bb.1 (by simp; omega) fun y hy => ?_
      obtain ⟨r, hr, rfl⟩ := List.mem_map.mp hy
      obtain ⟨hr1, hr2⟩ := List.mem_filter.mp hr
      cases r with
      | unk nm kd =>
        have e := lv (t := unkD (.unk nm kd)) (l := [D.lst ((rs.filter (pS s)).map unkD)]) rfl
        exact wpR_eq e ⟨.unk nm, xs1, by rw [okT]; exact ⟨kd, hr1, by simpa [pS] using hr2⟩, rfl, hT.symm⟩
      | fun_ nm ks kd => cases hr2
      | row nm ks kd => cases hr2
    · refine wp_ifF (fun Q' X' q => by simp! only [h3]; exact q) ?_
      rw [wpB_nil]
      cases s with
      | num =>
        refine wp_ifF (fun Q' X' q => by simp! only [So.d]; exact q) ?_
        rw [wpB_nil]
        have b13 := fmod_bd (i := x.fdiv 3) (j := 13) (by decide)
        have b4 := fmod_bd (i := x.fdiv 39) (j := 4) (by decide)
        have rd := c__law_reduced (n := n) (a := (x.fdiv 3).fmod 13 - 6) (b := 1 + (x.fdiv 39).fmod 4) (by omega) (log_small (by omega) (by omega)) hc2
        obtain ⟨r1, r2, r3, r4, _, _⟩ := red_ok (a := (x.fdiv 3).fmod 13 - 6) (b := 1 + (x.fdiv 39).fmod 4) (by omega)
        simp! only [rd]
        generalize ((x.fdiv 3).fmod 13 - 6) / ((Int.gcd ((x.fdiv 3).fmod 13 - 6) (1 + (x.fdiv 39).fmod 4) : Nat) : Int) = a at r3 r4 ⊢
        generalize (1 + (x.fdiv 39).fmod 4) / ((Int.gcd ((x.fdiv 3).fmod 13 - 6) (1 + (x.fdiv 39).fmod 4) : Nat) : Int) = b at r1 r2 r3 ⊢
        have e := lv (t := (Trm.num a b).d) (l := [D.lst ((rs.filter (pS .num)).map unkD)]) rfl
        refine wpR_eq e ⟨.num a b, xs1, ?_, rfl, hT.symm⟩
        rw [okT]
        exact ⟨rfl, by omega, by omega, by omega, by omega, r3⟩
      | tab m =>
        have hm : 2 ≤ m ∧ m ≤ 5 := by
          rcases hs with h | h | h
          · cases h
          · cases h; exact w.m1
          · cases h; exact w.m2
        have hne : ∀ {S}, eqE S (.tup [.str "table", .int m]) (.str "number") = some false := rfl
        refine wp_ifT (fun Q' X' q => by simp! only [So.d, hne]; exact q) ?_
        have bm := fmod_bd (i := x.fdiv 3) (j := m) (by omega)
        have hmd : ∀ {S}, binE S .mod (.int (x.fdiv 3)) (.int m) = some (.int ((x.fdiv 3).fmod m)) := mdl (by omega)
        simp! only [So.d, get_app, get_app0, set_app, set_app0, mutOf_r, listOf_r, dictOf_r, idx_r, idx_l, idx_f, idx_tup, mth_append, mth_pop, rcv_append, rcv_pop, rcv_extend, atI_0, atI_1, atI_2, atI_3, atI_4, add_rl, add_lr, add_ll, List.getElem?_cons_zero, List.getElem?_cons_succ, hmd]
        have e := lv (t := (Trm.mem m ((x.fdiv 3).fmod m)).d) (l := [D.lst ((rs.filter (pS (.tab m))).map unkD)]) rfl
        refine wpR_eq e ⟨.mem m ((x.fdiv 3).fmod m), xs1, ?_, rfl, hT.symm⟩
        rw [okT]
        exact ⟨rfl, hm.1, hm.2, bm.1, bm.2⟩
  obtain ⟨a, S', e, t, xs', h1, rfl, rfl⟩ := wpR_out key
  exact ⟨t, xs', h1, e⟩
end
end Pg
end
section
set_option Elab.async false
set_option linter.all false
set_option maxRecDepth 100000
set_option maxHeartbeats 8000000
namespace Pg
open Ev
local macro_rules
  | `(tactic| simp! only [$as,*] $[$l]?) => `(tactic| simp only [wpB_cons, wpB_nil, wpS_set, wpS_setT, wpS_par, wpS_setI, wpS_expr, wpS_ret, wpS_ife, wpS_raise, wpS_try, wpS_aug, wpE_var, wpE_cst, wpE_tup, wpE_lst, wpE_dct0, wpE_bin, wpE_neg, wpE_not, wpE_and, wpE_or, wpE_cmp, wpE_cmp2, wpE_is, wpE_ife, wpE_idx, wpE_sl, wpE_call, wpE_blt, wpE_mth, wpE_isi, wpEs_nil, wpEs_cons, wpR_ok, wpR_ex, wpO_some, wpO_map, wpT_true, wpT_false, wpT_not, wpIfs_nil, wpIfs_one, getV_0, getV_s, List.set_cons_succ, List.set_cons_zero, g0_F, g0_isa, truth_non, truth_bl, truth_int, truth_tup, truth_lst, truth_fz, Option.map_some, Option.isSome_some, if_true, Bool.false_eq_true, if_false, Bool.not_true, Bool.not_false, isPart, setTg, setNames, bin_add, bin_sub, cmp_lt, cmp_gt, cmp_le, cmp_ge, cmp_eq, orD_some, cmp_ne, eq_int, eq_str, abs_int, tuple_seq, list_seq, seqOf_tup, seqOf_lst, seqOf_fz, seqOf_ref, int_bl, mdl, fdl, min2, max2, pu_non, pu_bl, pu_int, pu_str, pu_nil, pu_cons, pure_tup, Bool.and_self, Int.reduceLT, and_true, true_and, decide_true, decide_false, isC_b_non, isC_n_bl, isC_n_int, isC_b_int, isC_n_str, isC_b_str, isC_n_tup, isC_b_tup, isC_n_lst, isC_b_lst, isC_n_fz, isC_b_fz, isC_n_dct, isC_b_dct, isC_n_ref, isC_b_ref, isC_n_exc, isC_b_exc, isC_n_non, isC_true_true_true, isC_true_true_false, isC_true_false_true, isC_true_false_false, isC_false_true_true, isC_false_true_false, isC_false_false_true, isC_false_false_false, isTys_nil, isTys_c, isTy_exv, isTy_exc, isTy_non_int, isTy_non_str, isTy_non_tuple, isTy_non_list, isTy_non_dict, isTy_non_bool, isTy_bl_int, isTy_bl_str, isTy_bl_tuple, isTy_bl_list, isTy_bl_dict, isTy_bl_bool, isTy_int_int, isTy_int_str, isTy_int_tuple, isTy_int_list, isTy_int_dict, isTy_int_bool, isTy_str_int, isTy_str_str, isTy_str_tuple, isTy_str_list, isTy_str_dict, isTy_str_bool, isTy_tup_int, isTy_tup_str, isTy_tup_tuple, isTy_tup_list, isTy_tup_dict, isTy_tup_bool, isTy_lst_int, isTy_lst_str, isTy_lst_tuple, isTy_lst_list, isTy_lst_dict, isTy_lst_bool, isTy_fz_int, isTy_fz_str, isTy_fz_tuple, isTy_fz_list, isTy_fz_dict, isTy_fz_bool, isTy_dct_int, isTy_dct_str, isTy_dct_tuple, isTy_dct_list, isTy_dct_dict, isTy_dct_bool, Option.bind_some, settle_int, settle_str, settle_bl, settle_non, settle_ref, settle_fz, settle_exc, settle_tup, settle_lst, settle_dct, settles_nil, settles_cons, $as,*] $[$l]?)
variable {n : Nat} {S : Sto}
section
variable {rs : List Rw} {m1 m2 lo hi : Int}
def CT (rs : List Rw) (m1 m2 : Int) (d : Nat) : Prop := ∀ (n : Nat) (S : Sto) (i : Nat) (xs : List Int) (s : So), 3 * d + 5 ≤ n → s.okB m1 m2 → Cl S → S[i]? = some (.lst (xs.map .int)) →
  ∃ (t : Trm) (xs' : List Int), okT rs t s d ∧ F n 20 [wd rs, s.d, .int d, .ref i] S = some (.ok t.d (S.set i (.lst (xs'.map .int))))
theorem trm_settle {t : Trm} : settle t.d S = (t.d, S) := settle_pure _ _ (trm_pure t)
theorem rtm_settle {t : Rtm} : settle t.d S = (t.d, S) := settle_pure _ _ (rtm_pure t)
structure RwI (rs : List Rw) (S : Sto) (i : Nat) (nm : PySem.Str) (a b : Kd) (s1 s2 : So) (d : Nat) (k : Nat) (ρ : Env) (Z : Sto) : Prop where
  ok : ∃ (r : Rtm) (ys : List Int) (u5 u6 : Option D), okR rs r nm s1 s2 d k ∧ Z = S.set i (.lst (ys.map .int)) ∧ ρ = [some (wd rs), some (Rw.row nm a b).d, some (.int (d + 1 : Nat)), some (.ref i), some r.d, u5, u6]
theorem c__law_row_term {d i : Nat} {xs : List Int} {nm : PySem.Str} {a b : Kd} {s1 s2 : So} (ih : CT rs m1 m2 d) (ha : a.so = some s1) (hb : b.so = some s2) (o1 : s1.okB m1 m2) (o2 : s2.okB m1 m2) (hn : 3 * d + 5 ≤ n) (hc : Cl S) (hS : S[i]? = some (.lst (xs.map .int))) :
    ∃ (r : Rtm) (xs' : List Int), okR rs r nm s1 s2 d 2 ∧ F (n + 1) 18 [wd rs, (Rw.row nm a b).d, .int (d + 1 : Nat), .ref i] S = some (.ok r.d (S.set i (.lst (xs'.map .int)))) := by
  have key : wpR (fun v S' => ∃ (r : Rtm) (xs' : List Int), okR rs r nm s1 s2 d 2 ∧ v = r.d ∧ S' = S.set i (.lst (xs'.map .int))) (fun _ _ => False) (F (n + 1) 18 [wd rs, (Rw.row nm a b).d, .int (d + 1 : Nat), .ref i] S) := by
    obtain ⟨m, rfl⟩ : ∃ m, n = m + 1 := ⟨n - 1, by omega⟩
    refine e__law_row_term (by simp only [settle_int, settle_str, settle_bl, settle_non, settle_ref, settle_fz, settle_exc, settle_tup, settle_lst, settle_dct, settles_nil, settles_cons, settles_rw, rw_settle]; rfl) ?_
    unfold b__law_row_term
    obtain ⟨x, xs1, f1⟩ := c__law_take (n := m) hc hS
    have b3 := fmod_bd (i := x) (j := 3) (by decide)
    have hd1 : ((d + 1 : Nat) : Int) - 1 = (d : Int) := by omega
    refine wp_then [some (wd rs), some (Rw.row nm a b).d, some (.int (d + 1 : Nat)), some (.ref i), some (Rtm.row nm).d, none, none] S (fun Qn' q => by simp! only [ix1, Rw.nm]; exact q) ?_
    rw [wpB_cons]
    refine wp_for (fun k ρ Z => RwI rs S i nm a b s1 s2 d k ρ Z) ?_
    simp! only [f1]
    refine ⟨_, none, items_r1 (by omega) (by omega), rng_settled, ⟨.row nm, xs1, none, none, by rw [okR], rfl, rfl⟩, fun _ _ _ _ => trivial, ?_, ?_⟩
    · rintro k y ρ Z hd ⟨r, ys, u5, u6, hr, rfl, rfl⟩
      obtain ⟨t1, xs2, k1, g1⟩ := ih (m + 1) _ i ys s1 (by omega) o1 (hc.ints ys) (get_set hS)
      rw [List.set_set] at g1
      obtain ⟨t2, xs3, k2, g2⟩ := ih (m + 1) _ i xs2 s2 (by omega) o2 (hc.ints xs2) (get_set hS)
      rw [List.set_set] at g2
      have q1 := c__law_sort (n := m) a ha (hc.ints (i := i) ys)
      have q2 := c__law_sort (n := m) b hb (hc.ints (i := i) xs2)
      have i2 : ∀ {S}, idxE S (Rw.row nm a b).d (.int 2) = some a.d := rfl
      have i3 : ∀ {S}, idxE S (Rw.row nm a b).d (.int 3) = some b.d := rfl
      simp! only [i2, q1, hd1, g1, trm_settle, i3, q2, g2, rtm_settle]
      exact ⟨.write r t1 t2, xs3, _, _, by rw [okR]; exact ⟨k, rfl, hr, k1, k2⟩, rfl, rfl⟩
    · rintro ρ Z ⟨r, ys, u5, u6, hr, rfl, rfl⟩
      rw [rng_len] at hr
      simp! only [wpB_nil]
      rw [leave_si0 hc (rtm_pure r)]
      exact ⟨r, ys, okR_mono rs r (Nat.le_refl _) (by omega) hr, rfl, rfl⟩
  obtain ⟨a, S', e, r, xs', h1, rfl, rfl⟩ := wpR_out key
  exact ⟨r, xs', h1, e⟩
def Rw.out : Rw → Kd
  | .unk _ k => k
  | .fun_ _ _ k => k
  | .row _ _ k => k
def pC (s : So) : Rw → Bool
  | .unk _ _ => false
  | r => decide (r.out.so = some s)
theorem c__law_called (w : WoB rs m1 m2 lo hi) {d i : Nat} {xs : List Int} {s : So} (ih : CT rs m1 m2 d) (hs : s.okB m1 m2) (hn : 3 * d + 6 ≤ n) (hc : Cl S) (hS : S[i]? = some (.lst (xs.map .int))) :
    ∃ (t : Trm) (xs' : List Int), okT rs t s (d + 1) ∧ F (n + 1) 19 [wd rs, s.d, .int (d + 1 : Nat), .ref i] S = some (.ok t.d (S.set i (.lst (xs'.map .int)))) := by
  have key : wpR (fun v S' => ∃ (t : Trm) (xs' : List Int), okT rs t s (d + 1) ∧ v = t.d ∧ S' = S.set i (.lst (xs'.map .int))) (fun _ _ => False) (F (n + 1) 19 [wd rs, s.d, .int (d + 1 : Nat), .ref i] S) := by
    obtain ⟨m, rfl⟩ : ∃ m, n = m + 3 := ⟨n - 3, by omega⟩
    refine e__law_called (by simp only [settle_int, settle_str, settle_bl, settle_non, settle_ref, settle_fz, settle_exc, settle_tup, settle_lst, settle_dct, settles_nil, settles_cons, settles_rw, so_settle]; rfl) ?_
    unfold b__law_called
    have hd1 : ((d + 1 : Nat) : Int) - 1 = (d : Int) := by omega
    simp! only [wpB_nil]
    refine wp_comp (fun k vs S' => vs = ((rs.take k).filter (pC s)).map Rw.d ∧ S = S') ?_
    simp! only [wpB_nil]
    refine ⟨_, none, items_tup, pures_settled _ (rws_pure rs), ⟨rfl, rfl⟩, fun _ _ _ _ => trivial, ?_, ?_⟩
    · rintro k y vs S' hd ⟨rfl, rfl⟩
      rw [List.getElem?_map] at hd
      obtain ⟨r, hr, rfl⟩ := Option.map_eq_some_iff.mp hd
      have hm := List.mem_of_getElem? hr
      rw [filt_succ hr]
      have q1 : decide (("function" : PySem.Str) = "unknown") = false := by decide
      have q2 : decide (("row" : PySem.Str) = "unknown") = false := by decide
      have eq : ∀ {S} {s'}, eqE S (So.d s') s.d = some (decide (s' = s)) := fun {S s'} => by
        have := eq_so (S := S) (a := some s') (b := some s)
        simpa [soD] using this
      cases r with
      | unk nm kd =>
        simp! only [ix0, Rw.word]
        simp [pC]
      | fun_ nm ks kr =>
        obtain ⟨s', hs', _⟩ := place_so' (w.fun_ hm).2.2.2.1
        have i3 : ∀ {S}, idxE S (Rw.fun_ nm ks kr).d (.int 3) = some kr.d := rfl
        have cs := c__law_sort (n := m + 2) kr hs' hc
        simp! only [ix0, Rw.word, q1, i3, cs, eq]
        refine wpT_d (fun h => ?_) fun h => ?_
        · simp! only [wpB_nil]
          subst h
          simp [pC, Rw.out, hs']
        · have : ¬ kr.so = some s := by rw [hs']; simpa using h
          simp [pC, Rw.out, this]
      | row nm a b =>
        obtain ⟨s', hs', _⟩ := place_so (w.row hm).2.1
        have i3 : ∀ {S}, idxE S (Rw.row nm a b).d (.int 3) = some b.d := rfl
        have cs := c__law_sort (n := m + 2) b hs' hc
        simp! only [ix0, Rw.word, q2, i3, cs, eq]
        refine wpT_d (fun h => ?_) fun h => ?_
        · simp! only [wpB_nil]
          subst h
          simp [pC, Rw.out, hs']
        · have : ¬ b.so = some s := by rw [hs']; simpa using h
          simp [pC, Rw.out, this]
    · rintro vs S' ⟨rfl, rfl⟩
      rw [List.length_map, List.take_length]
      have hpv : pures ((rs.filter (pC s)).map Rw.d) = true := rws_pure _
      have hg : (S ++ [D.lst ((rs.filter (pC s)).map Rw.d)])[S.length]? = some (.lst ((rs.filter (pC s)).map Rw.d)) := by simp
      have hc1 : Cl (S ++ [D.lst ((rs.filter (pC s)).map Rw.d)]) := cl_one hc hpv
      have hS1 : (S ++ [D.lst ((rs.filter (pC s)).map Rw.d)])[i]? = some (.lst (xs.map .int)) := get_b hS
      have ln := len_ref hg
      rw [List.length_map] at ln
      simp only [settle_lst, settles_pure _ _ hpv, List.set_cons_succ, List.set_cons_zero]
      by_cases h0 : (((rs.filter (pC s)).length : Nat) : Int) = 0
      · refine wp_ifT (fun Q' X' q => by simp! only [ln, h0]; exact q) ?_
        obtain ⟨t, xs2, ht, et⟩ := c__law_leaf (n := m) w hs hc1 hS1
        simp! only [et]
        rw [set_b hS, leave_si hc (trm_pure t)]
        exact ⟨t, xs2, okT_mono rs t (by omega) ht, rfl, rfl⟩
      · refine wp_ifF (fun Q' X' q => by simp! only [ln, h0]; exact q) ?_
        rw [wpB_nil]
        obtain ⟨x, xs1, f1⟩ := c__law_take (n := m + 2) hc1 hS1
        have hc2 : Cl ((S ++ [D.lst ((rs.filter (pC s)).map Rw.d)]).set i (.lst (xs1.map .int))) := hc1.ints xs1
        have hS2 : ((S ++ [D.lst ((rs.filter (pC s)).map Rw.d)]).set i (.lst (xs1.map .int)))[i]? = some (.lst (xs1.map .int)) := get_set hS1
        have hil : i < S.length := (List.getElem?_eq_some_iff.mp hS).1
        have hg2 : ((S ++ [D.lst ((rs.filter (pC s)).map Rw.d)]).set i (.lst (xs1.map .int)))[S.length]? = some (.lst ((rs.filter (pC s)).map Rw.d)) := by
          rw [List.getElem?_set_ne (by omega)]; exact hg
        have ln2 := len_ref hg2
        rw [List.length_map] at ln2
        have bb := fmod_bd (i := x) (j := ((rs.filter (pC s)).length : Int)) (by omega)
        have hm : ∀ {S}, binE S .mod (.int x) (.int ((rs.filter (pC s)).length : Int)) = some (.int (x.fmod (rs.filter (pC s)).length)) := bin_mod (by omega)
        rw [wpB_cons]
        simp only [wpS_set, wpE_idx, wpE_var, wpE_bin, wpE_blt, wpE_call, wpEs_cons, wpEs_nil, getV_0, getV_s, wpO_some, g0_F, f1, wpR_ok, ln2, hm, idx_ref hg2]
        refine wpO_atI bb.1 (by simp; omega) fun y hy => ?_
        obtain ⟨r, hr, rfl⟩ := List.mem_map.mp hy
        obtain ⟨hr1, hr2⟩ := List.mem_filter.mp hr
        simp only [rw_settle, List.set_cons_succ, List.set_cons_zero]
        cases r with
        | unk nm kd => cases hr2
        | row nm a b =>
          have hbs : b.so = some s := of_decide_eq_true hr2
          obtain ⟨s1, ha, o1⟩ := place_so (w.row hr1).1
          refine wp_ifT (fun Q' X' q => by simp! only [ix0, Rw.word]; exact q) ?_
          obtain ⟨t1, xs2, k1, g1⟩ := ih (m + 3) _ i xs1 s1 (by omega) o1 hc2 hS2
          rw [List.set_set] at g1
          have hc3 : Cl ((S ++ [D.lst ((rs.filter (pC s)).map Rw.d)]).set i (.lst (xs2.map .int))) := hc1.ints xs2
          obtain ⟨rt, xs3, k2, g2⟩ := c__law_row_term (n := m + 2) (nm := nm) ih ha hbs o1 hs (by omega) hc3 (get_set hS1)
          rw [List.set_set] at g2
          have cs := c__law_sort (n := m + 2) a ha hc2
          have i2 : ∀ {S}, idxE S (Rw.row nm a b).d (.int 2) = some a.d := rfl
          simp! only [i2, cs, hd1, g1, trm_settle, g2]
          rw [set_b hS]
          have e := leave_si (l := [D.lst ((rs.filter (pC s)).map Rw.d)]) (i := i) (xs := xs3) hc (trm_pure (.read rt t1))
          refine wpR_eq e ⟨.read rt t1, xs3, ?_, rfl, rfl⟩
          rw [okT]
          exact ⟨nm, a, b, s1, d, hr1, ha, hbs, rfl, k2, k1⟩
        | fun_ nm ks kr =>
          have hbs : kr.so = some s := of_decide_eq_true hr2
          have q1 : decide (("function" : PySem.Str) = "row") = false := by decide
          refine wp_ifF (fun Q' X' q => by simp! only [ix0, Rw.word, q1]; exact q) ?_
          rw [wpB_nil]
          obtain ⟨kl1, kl2, hks, _, _⟩ := w.fun_ hr1
          obtain ⟨ss, hss, hso⟩ : ∃ ss : List So, ks.map Kd.so = ss.map some ∧ ∀ s ∈ ss, s.okB m1 m2 := by
            clear hr hr1 hr2 hy kl1 kl2
            induction ks with
            | nil => exact ⟨[], rfl, fun _ h => nomatch h⟩
            | cons k ks ihk =>
              obtain ⟨s', h1, h2⟩ := place_so (hks k (by simp))
              obtain ⟨ss, h3, h4⟩ := ihk (fun q m => hks q (List.mem_cons_of_mem _ m))
              exact ⟨s' :: ss, by rw [List.map_cons, List.map_cons, h1, h3], fun q m => by
                rcases List.mem_cons.mp m with rfl | m
                · exact h2
                · exact h4 q m⟩
          have i2 : ∀ {S}, idxE S (Rw.fun_ nm ks kr).d (.int 2) = some (.tup (ks.map Kd.d)) := rfl
          simp! only [ix1, Rw.nm]
          refine wp_comp (fun k vs S'' => ∃ (ts : List Trm) (ys : List Int), vs = ts.map Trm.d ∧ okTs rs ts (ss.take k) d ∧ S'' = (S ++ [D.lst ((rs.filter (pC s)).map Rw.d)]).set i (.lst (ys.map .int))) ?_
          simp! only [i2]
          refine ⟨_, none, items_tup, kds_settled ks, ⟨[], xs1, rfl, by rw [List.take_zero, okTs]; trivial, rfl⟩, fun _ _ _ _ => trivial, ?_, ?_⟩
          · rintro k y2 vs S'' hd ⟨ts, ys, rfl, hts, rfl⟩
            rw [List.getElem?_map] at hd
            obtain ⟨q, hq, rfl⟩ := Option.map_eq_some_iff.mp hd
            have hsk := congrArg (fun l => l[k]?) hss
            simp only [List.getElem?_map, hq, Option.map_some] at hsk
            obtain ⟨s', hs1, hs2⟩ := Option.map_eq_some_iff.mp hsk.symm
            have cs := c__law_sort (n := m + 2) q hs2.symm (hc1.ints (i := i) ys)
            obtain ⟨t, xs2, k1, g1⟩ := ih (m + 3) _ i ys s' (by omega) (hso s' (List.mem_of_getElem? hs1)) (hc1.ints ys) (get_set hS1)
            rw [List.set_set] at g1
            simp! only [cs, hd1, g1]
            refine ⟨ts ++ [t], xs2, by simp, ?_, rfl⟩
            rw [List.take_succ, hs1]
            exact okTs_snoc hts k1
          · rintro vs S'' ⟨ts, ys, rfl, hts, rfl⟩
            have hl : ks.length = ss.length := by
              have := congrArg List.length hss
              simpa using this
            rw [List.length_map, hl, List.take_length] at hts
            simp! only [wpB_nil]
            rw [set_b hS, ← ds_map]
            have e := leave_si (l := [D.lst ((rs.filter (pC s)).map Rw.d)]) (i := i) (xs := ys) hc (trm_pure (.app nm ts))
            refine wpR_eq e ⟨.app nm ts, ys, ?_, rfl, rfl⟩
            rw [okT]
            exact ⟨ks, kr, ss, d, hr1, hbs, hss, rfl, hts⟩
  obtain ⟨a, S', e, t, xs', h1, rfl, rfl⟩ := wpR_out key
  exact ⟨t, xs', h1, e⟩
theorem c__law_term (w : WoB rs m1 m2 lo hi) (d : Nat) (ih : ∀ e, d = e + 1 → CT rs m1 m2 e) : CT rs m1 m2 d := by
  intro n S i xs s hn hs hc hS
  have key : wpR (fun v S' => ∃ (t : Trm) (xs' : List Int), okT rs t s d ∧ v = t.d ∧ S' = S.set i (.lst (xs'.map .int))) (fun _ _ => False) (F n 20 [wd rs, s.d, .int d, .ref i] S) := by
    obtain ⟨m, rfl⟩ : ∃ m, n = m + 4 := ⟨n - 4, by omega⟩
    refine e__law_term (by simp only [settle_int, settle_str, settle_bl, settle_non, settle_ref, settle_fz, settle_exc, settle_tup, settle_lst, settle_dct, settles_nil, settles_cons, settles_rw, so_settle]; rfl) ?_
    unfold b__law_term
    obtain ⟨x, xs1, f1⟩ := c__law_take (n := m + 2) hc hS
    have hc1 : Cl (S.set i (.lst (xs1.map .int))) := hc.ints xs1
    have hS1 : (S.set i (.lst (xs1.map .int)))[i]? = some (.lst (xs1.map .int)) := get_set hS
    have b6 := fmod_bd (i := x) (j := 6) (by decide)
    refine wp_then [some (wd rs), some s.d, some (.int d), some (.ref i), some (.int (x.fmod 6)), none, none] (S.set i (.lst (xs1.map .int))) (fun Qn' q => by simp! only [f1]; exact q) ?_
    by_cases h0 : (d : Int) ≤ 0 ∨ x.fmod 6 = 0
    · refine wp_ifT (fun Q' X' q => ?_) ?_
      · by_cases h1 : (d : Int) ≤ 0
        · simp! only [h1]; exact q
        · have h2 := h0.resolve_left h1
          simp! only [h1, h2]; exact q
      · obtain ⟨t, xs2, ht, et⟩ := c__law_leaf (n := m) w hs hc1 hS1
        rw [List.set_set] at et
        simp! only [et]
        rw [leave_si0 hc (trm_pure t)]
        exact ⟨t, xs2, okT_mono rs t (by omega) ht, rfl, rfl⟩
    · have h1 : ¬ (d : Int) ≤ 0 := fun h => h0 (.inl h)
      have h2 : ¬ x.fmod 6 = 0 := fun h => h0 (.inr h)
      refine wp_ifF (fun Q' X' q => by simp! only [h1, h2]; exact q) ?_
      rw [wpB_nil]
      obtain ⟨e, rfl⟩ : ∃ e, d = e + 1 := ⟨d - 1, by omega⟩
      have iT := ih e rfl
      have hd1 : ((e + 1 : Nat) : Int) - 1 = (e : Int) := by omega
      by_cases h3 : ¬ s = .num ∨ x.fmod 6 < 3
      · refine wp_ifT (fun Q' X' q => ?_) ?_
        · by_cases h4 : s = .num
          · have h5 : x.fmod 6 < 3 := h3.resolve_left (fun q => q h4)
            simp! only [eq_sn, h4, h5]; exact q
          · simp! only [eq_sn, h4]; exact q
        · obtain ⟨t, xs2, ht, et⟩ := c__law_called (n := m + 2) w iT hs (by omega) hc1 hS1
          rw [List.set_set] at et
          simp! only [et]
          rw [leave_si0 hc (trm_pure t)]
          exact ⟨t, xs2, ht, rfl, rfl⟩
      · have h4 : s = .num := Classical.byContradiction fun q => h3 (.inl q)
        have h5 : ¬ x.fmod 6 < 3 := fun q => h3 (.inr q)
        subst h4
        refine wp_ifF (fun Q' X' q => by simp! only [eq_sn, h5]; exact q) ?_
        rw [wpB_nil]
        obtain ⟨y, xs2, f2⟩ := c__law_take (n := m + 2) hc1 hS1
        rw [List.set_set] at f2
        by_cases h6 : x.fmod 6 = 3
        · refine wp_ifT (fun Q' X' q => by simp! only [h6]; exact q) ?_
          obtain ⟨t, xs3, ht, et⟩ := iT (m + 3) _ i xs2 .num (by omega) (.inl rfl) (hc.ints xs2) (get_set hS)
          rw [List.set_set] at et
          have b41 := fmod_bd (i := y) (j := 41) (by decide)
          simp! only [f2, hd1, et]
          have e := leave_si0 (i := i) (xs := xs3) hc (trm_pure (.times (y.fmod 41 - 20) t))
          refine wpR_eq e ⟨.times (y.fmod 41 - 20) t, xs3, ?_, rfl, rfl⟩
          rw [okT]
          exact ⟨rfl, by omega, by omega, _, rfl, ht⟩
        · refine wp_ifF (fun Q' X' q => by simp! only [h6]; exact q) ?_
          rw [wpB_nil]
          have b3 := fmod_bd (i := y) (j := 3) (by decide)
          refine wp_then [some (wd rs), some So.num.d, some (.int (e + 1 : Nat)), some (.ref i), some (.int (x.fmod 6)), some (.int (1 + y.fmod 3)), none] (S.set i (.lst (xs2.map .int))) (fun Qn' q => by simp! only [f2]; exact q) ?_
          simp! only [wpB_nil]
          refine wp_comp (fun k vs S'' => ∃ (ts : List Trm) (ys : List Int), vs = ts.map Trm.d ∧ ts.length = k ∧ okTs rs ts (ts.map fun _ => .num) e ∧ S'' = S.set i (.lst (ys.map .int))) ?_
          simp! only [wpB_nil]
          refine ⟨_, none, items_r1 (by omega) (by omega), rng_settled, ⟨[], xs2, rfl, rfl, by rw [List.map_nil, okTs]; trivial, rfl⟩, fun _ _ _ _ => trivial, ?_, ?_⟩
          · rintro k y2 vs S'' hd ⟨ts, ys, rfl, hl, hts, rfl⟩
            obtain ⟨t, xs3, ht, et⟩ := iT (m + 3) _ i ys .num (by omega) (.inl rfl) (hc.ints ys) (get_set hS)
            rw [List.set_set] at et
            simp! only [hd1, et]
            refine ⟨ts ++ [t], xs3, by simp, by simp [hl], ?_, rfl⟩
            rw [List.map_append]
            exact okTs_snoc hts ht
          · rintro vs S'' ⟨ts, ys, rfl, hl, hts, rfl⟩
            rw [rng_len] at hl
            simp! only [wpB_nil]
            rw [← ds_map]
            have e' := leave_si0 (i := i) (xs := ys) hc (trm_pure (.plus ts))
            refine wpR_eq e' ⟨.plus ts, ys, ?_, rfl, rfl⟩
            rw [okT]
            exact ⟨rfl, by omega, by omega, e, rfl, hts⟩
  obtain ⟨a, S', e, t, xs', h1, rfl, rfl⟩ := wpR_out key
  exact ⟨t, xs', h1, e⟩
theorem c_terms (w : WoB rs m1 m2 lo hi) : ∀ d, CT rs m1 m2 d
  | 0 => c__law_term w 0 fun e h => by omega
  | d + 1 => c__law_term w (d + 1) fun e h => by
    have : e = d := by omega
    subst this
    exact c_terms w e
end
end Pg
end
section
set_option Elab.async false
set_option linter.all false
set_option maxRecDepth 100000
namespace Pg
open Ev
theorem tg_unknown_member : ((("unknown" : PySem.Str)) = "member") = False := eq_false (by decide)
theorem tg_unknown_apply : ((("unknown" : PySem.Str)) = "apply") = False := eq_false (by decide)
theorem tg_unknown_read : ((("unknown" : PySem.Str)) = "read") = False := eq_false (by decide)
theorem tg_unknown_number : ((("unknown" : PySem.Str)) = "number") = False := eq_false (by decide)
theorem tg_unknown_plus : ((("unknown" : PySem.Str)) = "plus") = False := eq_false (by decide)
theorem tg_unknown_times : ((("unknown" : PySem.Str)) = "times") = False := eq_false (by decide)
theorem tg_unknown_row : ((("unknown" : PySem.Str)) = "row") = False := eq_false (by decide)
theorem tg_unknown_write : ((("unknown" : PySem.Str)) = "write") = False := eq_false (by decide)
theorem tg_unknown_is : ((("unknown" : PySem.Str)) = "is") = False := eq_false (by decide)
theorem tg_unknown_not : ((("unknown" : PySem.Str)) = "not") = False := eq_false (by decide)
theorem tg_unknown_all : ((("unknown" : PySem.Str)) = "all") = False := eq_false (by decide)
theorem tg_unknown_any : ((("unknown" : PySem.Str)) = "any") = False := eq_false (by decide)
theorem tg_unknown_if : ((("unknown" : PySem.Str)) = "if") = False := eq_false (by decide)
theorem tg_unknown_same : ((("unknown" : PySem.Str)) = "same") = False := eq_false (by decide)
theorem tg_unknown_equal : ((("unknown" : PySem.Str)) = "equal") = False := eq_false (by decide)
theorem tg_unknown_most : ((("unknown" : PySem.Str)) = "most") = False := eq_false (by decide)
theorem tg_unknown_less : ((("unknown" : PySem.Str)) = "less") = False := eq_false (by decide)
theorem tg_member_unknown : ((("member" : PySem.Str)) = "unknown") = False := eq_false (by decide)
theorem tg_member_apply : ((("member" : PySem.Str)) = "apply") = False := eq_false (by decide)
theorem tg_member_read : ((("member" : PySem.Str)) = "read") = False := eq_false (by decide)
theorem tg_member_number : ((("member" : PySem.Str)) = "number") = False := eq_false (by decide)
theorem tg_member_plus : ((("member" : PySem.Str)) = "plus") = False := eq_false (by decide)
theorem tg_member_times : ((("member" : PySem.Str)) = "times") = False := eq_false (by decide)
theorem tg_member_row : ((("member" : PySem.Str)) = "row") = False := eq_false (by decide)
theorem tg_member_write : ((("member" : PySem.Str)) = "write") = False := eq_false (by decide)
theorem tg_member_is : ((("member" : PySem.Str)) = "is") = False := eq_false (by decide)
theorem tg_member_not : ((("member" : PySem.Str)) = "not") = False := eq_false (by decide)
theorem tg_member_all : ((("member" : PySem.Str)) = "all") = False := eq_false (by decide)
theorem tg_member_any : ((("member" : PySem.Str)) = "any") = False := eq_false (by decide)
theorem tg_member_if : ((("member" : PySem.Str)) = "if") = False := eq_false (by decide)
theorem tg_member_same : ((("member" : PySem.Str)) = "same") = False := eq_false (by decide)
theorem tg_member_equal : ((("member" : PySem.Str)) = "equal") = False := eq_false (by decide)
theorem tg_member_most : ((("member" : PySem.Str)) = "most") = False := eq_false (by decide)
theorem tg_member_less : ((("member" : PySem.Str)) = "less") = False := eq_false (by decide)
theorem tg_apply_unknown : ((("apply" : PySem.Str)) = "unknown") = False := eq_false (by decide)
theorem tg_apply_member : ((("apply" : PySem.Str)) = "member") = False := eq_false (by decide)
theorem tg_apply_read : ((("apply" : PySem.Str)) = "read") = False := eq_false (by decide)
theorem tg_apply_number : ((("apply" : PySem.Str)) = "number") = False := eq_false (by decide)
theorem tg_apply_plus : ((("apply" : PySem.Str)) = "plus") = False := eq_false (by decide)
theorem tg_apply_times : ((("apply" : PySem.Str)) = "times") = False := eq_false (by decide)
theorem tg_apply_row : ((("apply" : PySem.Str)) = "row") = False := eq_false (by decide)
theorem tg_apply_write : ((("apply" : PySem.Str)) = "write") = False := eq_false (by decide)
theorem tg_apply_is : ((("apply" : PySem.Str)) = "is") = False := eq_false (by decide)
theorem tg_apply_not : ((("apply" : PySem.Str)) = "not") = False := eq_false (by decide)
theorem tg_apply_all : ((("apply" : PySem.Str)) = "all") = False := eq_false (by decide)
theorem tg_apply_any : ((("apply" : PySem.Str)) = "any") = False := eq_false (by decide)
theorem tg_apply_if : ((("apply" : PySem.Str)) = "if") = False := eq_false (by decide)
theorem tg_apply_same : ((("apply" : PySem.Str)) = "same") = False := eq_false (by decide)
theorem tg_apply_equal : ((("apply" : PySem.Str)) = "equal") = False := eq_false (by decide)
theorem tg_apply_most : ((("apply" : PySem.Str)) = "most") = False := eq_false (by decide)
theorem tg_apply_less : ((("apply" : PySem.Str)) = "less") = False := eq_false (by decide)
theorem tg_read_unknown : ((("read" : PySem.Str)) = "unknown") = False := eq_false (by decide)
theorem tg_read_member : ((("read" : PySem.Str)) = "member") = False := eq_false (by decide)
theorem tg_read_apply : ((("read" : PySem.Str)) = "apply") = False := eq_false (by decide)
theorem tg_read_number : ((("read" : PySem.Str)) = "number") = False := eq_false (by decide)
theorem tg_read_plus : ((("read" : PySem.Str)) = "plus") = False := eq_false (by decide)
theorem tg_read_times : ((("read" : PySem.Str)) = "times") = False := eq_false (by decide)
theorem tg_read_row : ((("read" : PySem.Str)) = "row") = False := eq_false (by decide)
theorem tg_read_write : ((("read" : PySem.Str)) = "write") = False := eq_false (by decide)
theorem tg_read_is : ((("read" : PySem.Str)) = "is") = False := eq_false (by decide)
theorem tg_read_not : ((("read" : PySem.Str)) = "not") = False := eq_false (by decide)
theorem tg_read_all : ((("read" : PySem.Str)) = "all") = False := eq_false (by decide)
theorem tg_read_any : ((("read" : PySem.Str)) = "any") = False := eq_false (by decide)
theorem tg_read_if : ((("read" : PySem.Str)) = "if") = False := eq_false (by decide)
theorem tg_read_same : ((("read" : PySem.Str)) = "same") = False := eq_false (by decide)
theorem tg_read_equal : ((("read" : PySem.Str)) = "equal") = False := eq_false (by decide)
theorem tg_read_most : ((("read" : PySem.Str)) = "most") = False := eq_false (by decide)
theorem tg_read_less : ((("read" : PySem.Str)) = "less") = False := eq_false (by decide)
theorem tg_number_unknown : ((("number" : PySem.Str)) = "unknown") = False := eq_false (by decide)
theorem tg_number_member : ((("number" : PySem.Str)) = "member") = False := eq_false (by decide)
theorem tg_number_apply : ((("number" : PySem.Str)) = "apply") = False := eq_false (by decide)
theorem tg_number_read : ((("number" : PySem.Str)) = "read") = False := eq_false (by decide)
theorem tg_number_plus : ((("number" : PySem.Str)) = "plus") = False := eq_false (by decide)
theorem tg_number_times : ((("number" : PySem.Str)) = "times") = False := eq_false (by decide)
theorem tg_number_row : ((("number" : PySem.Str)) = "row") = False := eq_false (by decide)
theorem tg_number_write : ((("number" : PySem.Str)) = "write") = False := eq_false (by decide)
theorem tg_number_is : ((("number" : PySem.Str)) = "is") = False := eq_false (by decide)
theorem tg_number_not : ((("number" : PySem.Str)) = "not") = False := eq_false (by decide)
theorem tg_number_all : ((("number" : PySem.Str)) = "all") = False := eq_false (by decide)
theorem tg_number_any : ((("number" : PySem.Str)) = "any") = False := eq_false (by decide)
theorem tg_number_if : ((("number" : PySem.Str)) = "if") = False := eq_false (by decide)
theorem tg_number_same : ((("number" : PySem.Str)) = "same") = False := eq_false (by decide)
theorem tg_number_equal : ((("number" : PySem.Str)) = "equal") = False := eq_false (by decide)
theorem tg_number_most : ((("number" : PySem.Str)) = "most") = False := eq_false (by decide)
theorem tg_number_less : ((("number" : PySem.Str)) = "less") = False := eq_false (by decide)
theorem tg_plus_unknown : ((("plus" : PySem.Str)) = "unknown") = False := eq_false (by decide)
theorem tg_plus_member : ((("plus" : PySem.Str)) = "member") = False := eq_false (by decide)
theorem tg_plus_apply : ((("plus" : PySem.Str)) = "apply") = False := eq_false (by decide)
theorem tg_plus_read : ((("plus" : PySem.Str)) = "read") = False := eq_false (by decide)
theorem tg_plus_number : ((("plus" : PySem.Str)) = "number") = False := eq_false (by decide)
theorem tg_plus_times : ((("plus" : PySem.Str)) = "times") = False := eq_false (by decide)
theorem tg_plus_row : ((("plus" : PySem.Str)) = "row") = False := eq_false (by decide)
theorem tg_plus_write : ((("plus" : PySem.Str)) = "write") = False := eq_false (by decide)
theorem tg_plus_is : ((("plus" : PySem.Str)) = "is") = False := eq_false (by decide)
theorem tg_plus_not : ((("plus" : PySem.Str)) = "not") = False := eq_false (by decide)
theorem tg_plus_all : ((("plus" : PySem.Str)) = "all") = False := eq_false (by decide)
theorem tg_plus_any : ((("plus" : PySem.Str)) = "any") = False := eq_false (by decide)
theorem tg_plus_if : ((("plus" : PySem.Str)) = "if") = False := eq_false (by decide)
theorem tg_plus_same : ((("plus" : PySem.Str)) = "same") = False := eq_false (by decide)
theorem tg_plus_equal : ((("plus" : PySem.Str)) = "equal") = False := eq_false (by decide)
theorem tg_plus_most : ((("plus" : PySem.Str)) = "most") = False := eq_false (by decide)
theorem tg_plus_less : ((("plus" : PySem.Str)) = "less") = False := eq_false (by decide)
theorem tg_times_unknown : ((("times" : PySem.Str)) = "unknown") = False := eq_false (by decide)
theorem tg_times_member : ((("times" : PySem.Str)) = "member") = False := eq_false (by decide)
theorem tg_times_apply : ((("times" : PySem.Str)) = "apply") = False := eq_false (by decide)
theorem tg_times_read : ((("times" : PySem.Str)) = "read") = False := eq_false (by decide)
theorem tg_times_number : ((("times" : PySem.Str)) = "number") = False := eq_false (by decide)
theorem tg_times_plus : ((("times" : PySem.Str)) = "plus") = False := eq_false (by decide)
theorem tg_times_row : ((("times" : PySem.Str)) = "row") = False := eq_false (by decide)
theorem tg_times_write : ((("times" : PySem.Str)) = "write") = False := eq_false (by decide)
theorem tg_times_is : ((("times" : PySem.Str)) = "is") = False := eq_false (by decide)
theorem tg_times_not : ((("times" : PySem.Str)) = "not") = False := eq_false (by decide)
theorem tg_times_all : ((("times" : PySem.Str)) = "all") = False := eq_false (by decide)
theorem tg_times_any : ((("times" : PySem.Str)) = "any") = False := eq_false (by decide)
theorem tg_times_if : ((("times" : PySem.Str)) = "if") = False := eq_false (by decide)
theorem tg_times_same : ((("times" : PySem.Str)) = "same") = False := eq_false (by decide)
theorem tg_times_equal : ((("times" : PySem.Str)) = "equal") = False := eq_false (by decide)
theorem tg_times_most : ((("times" : PySem.Str)) = "most") = False := eq_false (by decide)
theorem tg_times_less : ((("times" : PySem.Str)) = "less") = False := eq_false (by decide)
theorem tg_row_unknown : ((("row" : PySem.Str)) = "unknown") = False := eq_false (by decide)
theorem tg_row_member : ((("row" : PySem.Str)) = "member") = False := eq_false (by decide)
theorem tg_row_apply : ((("row" : PySem.Str)) = "apply") = False := eq_false (by decide)
theorem tg_row_read : ((("row" : PySem.Str)) = "read") = False := eq_false (by decide)
theorem tg_row_number : ((("row" : PySem.Str)) = "number") = False := eq_false (by decide)
theorem tg_row_plus : ((("row" : PySem.Str)) = "plus") = False := eq_false (by decide)
theorem tg_row_times : ((("row" : PySem.Str)) = "times") = False := eq_false (by decide)
theorem tg_row_write : ((("row" : PySem.Str)) = "write") = False := eq_false (by decide)
theorem tg_row_is : ((("row" : PySem.Str)) = "is") = False := eq_false (by decide)
theorem tg_row_not : ((("row" : PySem.Str)) = "not") = False := eq_false (by decide)
theorem tg_row_all : ((("row" : PySem.Str)) = "all") = False := eq_false (by decide)
theorem tg_row_any : ((("row" : PySem.Str)) = "any") = False := eq_false (by decide)
theorem tg_row_if : ((("row" : PySem.Str)) = "if") = False := eq_false (by decide)
theorem tg_row_same : ((("row" : PySem.Str)) = "same") = False := eq_false (by decide)
theorem tg_row_equal : ((("row" : PySem.Str)) = "equal") = False := eq_false (by decide)
theorem tg_row_most : ((("row" : PySem.Str)) = "most") = False := eq_false (by decide)
theorem tg_row_less : ((("row" : PySem.Str)) = "less") = False := eq_false (by decide)
theorem tg_write_unknown : ((("write" : PySem.Str)) = "unknown") = False := eq_false (by decide)
theorem tg_write_member : ((("write" : PySem.Str)) = "member") = False := eq_false (by decide)
theorem tg_write_apply : ((("write" : PySem.Str)) = "apply") = False := eq_false (by decide)
theorem tg_write_read : ((("write" : PySem.Str)) = "read") = False := eq_false (by decide)
theorem tg_write_number : ((("write" : PySem.Str)) = "number") = False := eq_false (by decide)
theorem tg_write_plus : ((("write" : PySem.Str)) = "plus") = False := eq_false (by decide)
theorem tg_write_times : ((("write" : PySem.Str)) = "times") = False := eq_false (by decide)
theorem tg_write_row : ((("write" : PySem.Str)) = "row") = False := eq_false (by decide)
theorem tg_write_is : ((("write" : PySem.Str)) = "is") = False := eq_false (by decide)
theorem tg_write_not : ((("write" : PySem.Str)) = "not") = False := eq_false (by decide)
theorem tg_write_all : ((("write" : PySem.Str)) = "all") = False := eq_false (by decide)
theorem tg_write_any : ((("write" : PySem.Str)) = "any") = False := eq_false (by decide)
theorem tg_write_if : ((("write" : PySem.Str)) = "if") = False := eq_false (by decide)
theorem tg_write_same : ((("write" : PySem.Str)) = "same") = False := eq_false (by decide)
theorem tg_write_equal : ((("write" : PySem.Str)) = "equal") = False := eq_false (by decide)
theorem tg_write_most : ((("write" : PySem.Str)) = "most") = False := eq_false (by decide)
theorem tg_write_less : ((("write" : PySem.Str)) = "less") = False := eq_false (by decide)
theorem tg_is_unknown : ((("is" : PySem.Str)) = "unknown") = False := eq_false (by decide)
theorem tg_is_member : ((("is" : PySem.Str)) = "member") = False := eq_false (by decide)
theorem tg_is_apply : ((("is" : PySem.Str)) = "apply") = False := eq_false (by decide)
theorem tg_is_read : ((("is" : PySem.Str)) = "read") = False := eq_false (by decide)
theorem tg_is_number : ((("is" : PySem.Str)) = "number") = False := eq_false (by decide)
theorem tg_is_plus : ((("is" : PySem.Str)) = "plus") = False := eq_false (by decide)
theorem tg_is_times : ((("is" : PySem.Str)) = "times") = False := eq_false (by decide)
theorem tg_is_row : ((("is" : PySem.Str)) = "row") = False := eq_false (by decide)
theorem tg_is_write : ((("is" : PySem.Str)) = "write") = False := eq_false (by decide)
theorem tg_is_not : ((("is" : PySem.Str)) = "not") = False := eq_false (by decide)
theorem tg_is_all : ((("is" : PySem.Str)) = "all") = False := eq_false (by decide)
theorem tg_is_any : ((("is" : PySem.Str)) = "any") = False := eq_false (by decide)
theorem tg_is_if : ((("is" : PySem.Str)) = "if") = False := eq_false (by decide)
theorem tg_is_same : ((("is" : PySem.Str)) = "same") = False := eq_false (by decide)
theorem tg_is_equal : ((("is" : PySem.Str)) = "equal") = False := eq_false (by decide)
theorem tg_is_most : ((("is" : PySem.Str)) = "most") = False := eq_false (by decide)
theorem tg_is_less : ((("is" : PySem.Str)) = "less") = False := eq_false (by decide)
theorem tg_not_unknown : ((("not" : PySem.Str)) = "unknown") = False := eq_false (by decide)
theorem tg_not_member : ((("not" : PySem.Str)) = "member") = False := eq_false (by decide)
theorem tg_not_apply : ((("not" : PySem.Str)) = "apply") = False := eq_false (by decide)
theorem tg_not_read : ((("not" : PySem.Str)) = "read") = False := eq_false (by decide)
theorem tg_not_number : ((("not" : PySem.Str)) = "number") = False := eq_false (by decide)
theorem tg_not_plus : ((("not" : PySem.Str)) = "plus") = False := eq_false (by decide)
theorem tg_not_times : ((("not" : PySem.Str)) = "times") = False := eq_false (by decide)
theorem tg_not_row : ((("not" : PySem.Str)) = "row") = False := eq_false (by decide)
theorem tg_not_write : ((("not" : PySem.Str)) = "write") = False := eq_false (by decide)
theorem tg_not_is : ((("not" : PySem.Str)) = "is") = False := eq_false (by decide)
theorem tg_not_all : ((("not" : PySem.Str)) = "all") = False := eq_false (by decide)
theorem tg_not_any : ((("not" : PySem.Str)) = "any") = False := eq_false (by decide)
theorem tg_not_if : ((("not" : PySem.Str)) = "if") = False := eq_false (by decide)
theorem tg_not_same : ((("not" : PySem.Str)) = "same") = False := eq_false (by decide)
theorem tg_not_equal : ((("not" : PySem.Str)) = "equal") = False := eq_false (by decide)
theorem tg_not_most : ((("not" : PySem.Str)) = "most") = False := eq_false (by decide)
theorem tg_not_less : ((("not" : PySem.Str)) = "less") = False := eq_false (by decide)
theorem tg_all_unknown : ((("all" : PySem.Str)) = "unknown") = False := eq_false (by decide)
theorem tg_all_member : ((("all" : PySem.Str)) = "member") = False := eq_false (by decide)
theorem tg_all_apply : ((("all" : PySem.Str)) = "apply") = False := eq_false (by decide)
theorem tg_all_read : ((("all" : PySem.Str)) = "read") = False := eq_false (by decide)
theorem tg_all_number : ((("all" : PySem.Str)) = "number") = False := eq_false (by decide)
theorem tg_all_plus : ((("all" : PySem.Str)) = "plus") = False := eq_false (by decide)
theorem tg_all_times : ((("all" : PySem.Str)) = "times") = False := eq_false (by decide)
theorem tg_all_row : ((("all" : PySem.Str)) = "row") = False := eq_false (by decide)
theorem tg_all_write : ((("all" : PySem.Str)) = "write") = False := eq_false (by decide)
theorem tg_all_is : ((("all" : PySem.Str)) = "is") = False := eq_false (by decide)
theorem tg_all_not : ((("all" : PySem.Str)) = "not") = False := eq_false (by decide)
theorem tg_all_any : ((("all" : PySem.Str)) = "any") = False := eq_false (by decide)
theorem tg_all_if : ((("all" : PySem.Str)) = "if") = False := eq_false (by decide)
theorem tg_all_same : ((("all" : PySem.Str)) = "same") = False := eq_false (by decide)
theorem tg_all_equal : ((("all" : PySem.Str)) = "equal") = False := eq_false (by decide)
theorem tg_all_most : ((("all" : PySem.Str)) = "most") = False := eq_false (by decide)
theorem tg_all_less : ((("all" : PySem.Str)) = "less") = False := eq_false (by decide)
theorem tg_any_unknown : ((("any" : PySem.Str)) = "unknown") = False := eq_false (by decide)
theorem tg_any_member : ((("any" : PySem.Str)) = "member") = False := eq_false (by decide)
theorem tg_any_apply : ((("any" : PySem.Str)) = "apply") = False := eq_false (by decide)
theorem tg_any_read : ((("any" : PySem.Str)) = "read") = False := eq_false (by decide)
theorem tg_any_number : ((("any" : PySem.Str)) = "number") = False := eq_false (by decide)
theorem tg_any_plus : ((("any" : PySem.Str)) = "plus") = False := eq_false (by decide)
theorem tg_any_times : ((("any" : PySem.Str)) = "times") = False := eq_false (by decide)
theorem tg_any_row : ((("any" : PySem.Str)) = "row") = False := eq_false (by decide)
theorem tg_any_write : ((("any" : PySem.Str)) = "write") = False := eq_false (by decide)
theorem tg_any_is : ((("any" : PySem.Str)) = "is") = False := eq_false (by decide)
theorem tg_any_not : ((("any" : PySem.Str)) = "not") = False := eq_false (by decide)
theorem tg_any_all : ((("any" : PySem.Str)) = "all") = False := eq_false (by decide)
theorem tg_any_if : ((("any" : PySem.Str)) = "if") = False := eq_false (by decide)
theorem tg_any_same : ((("any" : PySem.Str)) = "same") = False := eq_false (by decide)
theorem tg_any_equal : ((("any" : PySem.Str)) = "equal") = False := eq_false (by decide)
theorem tg_any_most : ((("any" : PySem.Str)) = "most") = False := eq_false (by decide)
theorem tg_any_less : ((("any" : PySem.Str)) = "less") = False := eq_false (by decide)
theorem tg_if_unknown : ((("if" : PySem.Str)) = "unknown") = False := eq_false (by decide)
theorem tg_if_member : ((("if" : PySem.Str)) = "member") = False := eq_false (by decide)
theorem tg_if_apply : ((("if" : PySem.Str)) = "apply") = False := eq_false (by decide)
theorem tg_if_read : ((("if" : PySem.Str)) = "read") = False := eq_false (by decide)
theorem tg_if_number : ((("if" : PySem.Str)) = "number") = False := eq_false (by decide)
theorem tg_if_plus : ((("if" : PySem.Str)) = "plus") = False := eq_false (by decide)
theorem tg_if_times : ((("if" : PySem.Str)) = "times") = False := eq_false (by decide)
theorem tg_if_row : ((("if" : PySem.Str)) = "row") = False := eq_false (by decide)
theorem tg_if_write : ((("if" : PySem.Str)) = "write") = False := eq_false (by decide)
theorem tg_if_is : ((("if" : PySem.Str)) = "is") = False := eq_false (by decide)
theorem tg_if_not : ((("if" : PySem.Str)) = "not") = False := eq_false (by decide)
theorem tg_if_all : ((("if" : PySem.Str)) = "all") = False := eq_false (by decide)
theorem tg_if_any : ((("if" : PySem.Str)) = "any") = False := eq_false (by decide)
theorem tg_if_same : ((("if" : PySem.Str)) = "same") = False := eq_false (by decide)
theorem tg_if_equal : ((("if" : PySem.Str)) = "equal") = False := eq_false (by decide)
theorem tg_if_most : ((("if" : PySem.Str)) = "most") = False := eq_false (by decide)
theorem tg_if_less : ((("if" : PySem.Str)) = "less") = False := eq_false (by decide)
theorem tg_same_unknown : ((("same" : PySem.Str)) = "unknown") = False := eq_false (by decide)
theorem tg_same_member : ((("same" : PySem.Str)) = "member") = False := eq_false (by decide)
theorem tg_same_apply : ((("same" : PySem.Str)) = "apply") = False := eq_false (by decide)
theorem tg_same_read : ((("same" : PySem.Str)) = "read") = False := eq_false (by decide)
theorem tg_same_number : ((("same" : PySem.Str)) = "number") = False := eq_false (by decide)
theorem tg_same_plus : ((("same" : PySem.Str)) = "plus") = False := eq_false (by decide)
theorem tg_same_times : ((("same" : PySem.Str)) = "times") = False := eq_false (by decide)
theorem tg_same_row : ((("same" : PySem.Str)) = "row") = False := eq_false (by decide)
theorem tg_same_write : ((("same" : PySem.Str)) = "write") = False := eq_false (by decide)
theorem tg_same_is : ((("same" : PySem.Str)) = "is") = False := eq_false (by decide)
theorem tg_same_not : ((("same" : PySem.Str)) = "not") = False := eq_false (by decide)
theorem tg_same_all : ((("same" : PySem.Str)) = "all") = False := eq_false (by decide)
theorem tg_same_any : ((("same" : PySem.Str)) = "any") = False := eq_false (by decide)
theorem tg_same_if : ((("same" : PySem.Str)) = "if") = False := eq_false (by decide)
theorem tg_same_equal : ((("same" : PySem.Str)) = "equal") = False := eq_false (by decide)
theorem tg_same_most : ((("same" : PySem.Str)) = "most") = False := eq_false (by decide)
theorem tg_same_less : ((("same" : PySem.Str)) = "less") = False := eq_false (by decide)
theorem tg_equal_unknown : ((("equal" : PySem.Str)) = "unknown") = False := eq_false (by decide)
theorem tg_equal_member : ((("equal" : PySem.Str)) = "member") = False := eq_false (by decide)
theorem tg_equal_apply : ((("equal" : PySem.Str)) = "apply") = False := eq_false (by decide)
theorem tg_equal_read : ((("equal" : PySem.Str)) = "read") = False := eq_false (by decide)
theorem tg_equal_number : ((("equal" : PySem.Str)) = "number") = False := eq_false (by decide)
theorem tg_equal_plus : ((("equal" : PySem.Str)) = "plus") = False := eq_false (by decide)
theorem tg_equal_times : ((("equal" : PySem.Str)) = "times") = False := eq_false (by decide)
theorem tg_equal_row : ((("equal" : PySem.Str)) = "row") = False := eq_false (by decide)
theorem tg_equal_write : ((("equal" : PySem.Str)) = "write") = False := eq_false (by decide)
theorem tg_equal_is : ((("equal" : PySem.Str)) = "is") = False := eq_false (by decide)
theorem tg_equal_not : ((("equal" : PySem.Str)) = "not") = False := eq_false (by decide)
theorem tg_equal_all : ((("equal" : PySem.Str)) = "all") = False := eq_false (by decide)
theorem tg_equal_any : ((("equal" : PySem.Str)) = "any") = False := eq_false (by decide)
theorem tg_equal_if : ((("equal" : PySem.Str)) = "if") = False := eq_false (by decide)
theorem tg_equal_same : ((("equal" : PySem.Str)) = "same") = False := eq_false (by decide)
theorem tg_equal_most : ((("equal" : PySem.Str)) = "most") = False := eq_false (by decide)
theorem tg_equal_less : ((("equal" : PySem.Str)) = "less") = False := eq_false (by decide)
theorem tg_most_unknown : ((("most" : PySem.Str)) = "unknown") = False := eq_false (by decide)
theorem tg_most_member : ((("most" : PySem.Str)) = "member") = False := eq_false (by decide)
theorem tg_most_apply : ((("most" : PySem.Str)) = "apply") = False := eq_false (by decide)
theorem tg_most_read : ((("most" : PySem.Str)) = "read") = False := eq_false (by decide)
theorem tg_most_number : ((("most" : PySem.Str)) = "number") = False := eq_false (by decide)
theorem tg_most_plus : ((("most" : PySem.Str)) = "plus") = False := eq_false (by decide)
theorem tg_most_times : ((("most" : PySem.Str)) = "times") = False := eq_false (by decide)
theorem tg_most_row : ((("most" : PySem.Str)) = "row") = False := eq_false (by decide)
theorem tg_most_write : ((("most" : PySem.Str)) = "write") = False := eq_false (by decide)
theorem tg_most_is : ((("most" : PySem.Str)) = "is") = False := eq_false (by decide)
theorem tg_most_not : ((("most" : PySem.Str)) = "not") = False := eq_false (by decide)
theorem tg_most_all : ((("most" : PySem.Str)) = "all") = False := eq_false (by decide)
theorem tg_most_any : ((("most" : PySem.Str)) = "any") = False := eq_false (by decide)
theorem tg_most_if : ((("most" : PySem.Str)) = "if") = False := eq_false (by decide)
theorem tg_most_same : ((("most" : PySem.Str)) = "same") = False := eq_false (by decide)
theorem tg_most_equal : ((("most" : PySem.Str)) = "equal") = False := eq_false (by decide)
theorem tg_most_less : ((("most" : PySem.Str)) = "less") = False := eq_false (by decide)
theorem tg_less_unknown : ((("less" : PySem.Str)) = "unknown") = False := eq_false (by decide)
theorem tg_less_member : ((("less" : PySem.Str)) = "member") = False := eq_false (by decide)
theorem tg_less_apply : ((("less" : PySem.Str)) = "apply") = False := eq_false (by decide)
theorem tg_less_read : ((("less" : PySem.Str)) = "read") = False := eq_false (by decide)
theorem tg_less_number : ((("less" : PySem.Str)) = "number") = False := eq_false (by decide)
theorem tg_less_plus : ((("less" : PySem.Str)) = "plus") = False := eq_false (by decide)
theorem tg_less_times : ((("less" : PySem.Str)) = "times") = False := eq_false (by decide)
theorem tg_less_row : ((("less" : PySem.Str)) = "row") = False := eq_false (by decide)
theorem tg_less_write : ((("less" : PySem.Str)) = "write") = False := eq_false (by decide)
theorem tg_less_is : ((("less" : PySem.Str)) = "is") = False := eq_false (by decide)
theorem tg_less_not : ((("less" : PySem.Str)) = "not") = False := eq_false (by decide)
theorem tg_less_all : ((("less" : PySem.Str)) = "all") = False := eq_false (by decide)
theorem tg_less_any : ((("less" : PySem.Str)) = "any") = False := eq_false (by decide)
theorem tg_less_if : ((("less" : PySem.Str)) = "if") = False := eq_false (by decide)
theorem tg_less_same : ((("less" : PySem.Str)) = "same") = False := eq_false (by decide)
theorem tg_less_equal : ((("less" : PySem.Str)) = "equal") = False := eq_false (by decide)
theorem tg_less_most : ((("less" : PySem.Str)) = "most") = False := eq_false (by decide)
theorem tg_minus_unknown : ((("minus" : PySem.Str)) = "unknown") = False := eq_false (by decide)
theorem tg_minus_member : ((("minus" : PySem.Str)) = "member") = False := eq_false (by decide)
theorem tg_minus_apply : ((("minus" : PySem.Str)) = "apply") = False := eq_false (by decide)
theorem tg_minus_read : ((("minus" : PySem.Str)) = "read") = False := eq_false (by decide)
theorem tg_minus_number : ((("minus" : PySem.Str)) = "number") = False := eq_false (by decide)
theorem tg_minus_plus : ((("minus" : PySem.Str)) = "plus") = False := eq_false (by decide)
theorem tg_minus_times : ((("minus" : PySem.Str)) = "times") = False := eq_false (by decide)
theorem tg_minus_row : ((("minus" : PySem.Str)) = "row") = False := eq_false (by decide)
theorem tg_minus_write : ((("minus" : PySem.Str)) = "write") = False := eq_false (by decide)
theorem tg_minus_is : ((("minus" : PySem.Str)) = "is") = False := eq_false (by decide)
theorem tg_minus_not : ((("minus" : PySem.Str)) = "not") = False := eq_false (by decide)
theorem tg_minus_all : ((("minus" : PySem.Str)) = "all") = False := eq_false (by decide)
theorem tg_minus_any : ((("minus" : PySem.Str)) = "any") = False := eq_false (by decide)
theorem tg_minus_if : ((("minus" : PySem.Str)) = "if") = False := eq_false (by decide)
theorem tg_minus_same : ((("minus" : PySem.Str)) = "same") = False := eq_false (by decide)
theorem tg_minus_equal : ((("minus" : PySem.Str)) = "equal") = False := eq_false (by decide)
theorem tg_minus_most : ((("minus" : PySem.Str)) = "most") = False := eq_false (by decide)
theorem tg_minus_less : ((("minus" : PySem.Str)) = "less") = False := eq_false (by decide)
theorem tg_rows_unknown : ((("rows" : PySem.Str)) = "unknown") = False := eq_false (by decide)
theorem tg_rows_member : ((("rows" : PySem.Str)) = "member") = False := eq_false (by decide)
theorem tg_rows_apply : ((("rows" : PySem.Str)) = "apply") = False := eq_false (by decide)
theorem tg_rows_read : ((("rows" : PySem.Str)) = "read") = False := eq_false (by decide)
theorem tg_rows_number : ((("rows" : PySem.Str)) = "number") = False := eq_false (by decide)
theorem tg_rows_plus : ((("rows" : PySem.Str)) = "plus") = False := eq_false (by decide)
theorem tg_rows_times : ((("rows" : PySem.Str)) = "times") = False := eq_false (by decide)
theorem tg_rows_row : ((("rows" : PySem.Str)) = "row") = False := eq_false (by decide)
theorem tg_rows_write : ((("rows" : PySem.Str)) = "write") = False := eq_false (by decide)
theorem tg_rows_is : ((("rows" : PySem.Str)) = "is") = False := eq_false (by decide)
theorem tg_rows_not : ((("rows" : PySem.Str)) = "not") = False := eq_false (by decide)
theorem tg_rows_all : ((("rows" : PySem.Str)) = "all") = False := eq_false (by decide)
theorem tg_rows_any : ((("rows" : PySem.Str)) = "any") = False := eq_false (by decide)
theorem tg_rows_if : ((("rows" : PySem.Str)) = "if") = False := eq_false (by decide)
theorem tg_rows_same : ((("rows" : PySem.Str)) = "same") = False := eq_false (by decide)
theorem tg_rows_equal : ((("rows" : PySem.Str)) = "equal") = False := eq_false (by decide)
theorem tg_rows_most : ((("rows" : PySem.Str)) = "most") = False := eq_false (by decide)
theorem tg_rows_less : ((("rows" : PySem.Str)) = "less") = False := eq_false (by decide)
end Pg
end
section
set_option Elab.async false
set_option linter.all false
set_option maxRecDepth 100000
set_option maxHeartbeats 8000000
namespace Pg
open Ev
local macro_rules
  | `(tactic| simp! only [$as,*] $[$l]?) => `(tactic| simp only [wpB_cons, wpB_nil, wpS_set, wpS_setT, wpS_par, wpS_setI, wpS_expr, wpS_ret, wpS_ife, wpS_raise, wpS_try, wpS_aug, wpE_var, wpE_cst, wpE_tup, wpE_lst, wpE_dct0, wpE_bin, wpE_neg, wpE_not, wpE_and, wpE_or, wpE_cmp, wpE_cmp2, wpE_is, wpE_ife, wpE_idx, wpE_sl, wpE_call, wpE_blt, wpE_mth, wpE_isi, wpEs_nil, wpEs_cons, wpR_ok, wpR_ex, wpO_some, wpO_map, wpT_true, wpT_false, wpT_not, wpIfs_nil, wpIfs_one, getV_0, getV_s, List.set_cons_succ, List.set_cons_zero, g0_F, g0_isa, truth_non, truth_bl, truth_int, truth_tup, truth_lst, truth_fz, Option.map_some, Option.isSome_some, if_true, Bool.false_eq_true, if_false, Bool.not_true, Bool.not_false, isPart, setTg, setNames, bin_add, bin_sub, cmp_lt, cmp_gt, cmp_le, cmp_ge, cmp_eq, orD_some, cmp_ne, eq_int, eq_str, abs_int, tuple_seq, list_seq, seqOf_tup, seqOf_lst, seqOf_fz, seqOf_ref, int_bl, mdl, fdl, min2, max2, pu_non, pu_bl, pu_int, pu_str, pu_nil, pu_cons, pure_tup, Bool.and_self, Int.reduceLT, and_true, true_and, decide_true, decide_false, isC_b_non, isC_n_bl, isC_n_int, isC_b_int, isC_n_str, isC_b_str, isC_n_tup, isC_b_tup, isC_n_lst, isC_b_lst, isC_n_fz, isC_b_fz, isC_n_dct, isC_b_dct, isC_n_ref, isC_b_ref, isC_n_exc, isC_b_exc, isC_n_non, isC_true_true_true, isC_true_true_false, isC_true_false_true, isC_true_false_false, isC_false_true_true, isC_false_true_false, isC_false_false_true, isC_false_false_false, isTys_nil, isTys_c, isTy_exv, isTy_exc, isTy_non_int, isTy_non_str, isTy_non_tuple, isTy_non_list, isTy_non_dict, isTy_non_bool, isTy_bl_int, isTy_bl_str, isTy_bl_tuple, isTy_bl_list, isTy_bl_dict, isTy_bl_bool, isTy_int_int, isTy_int_str, isTy_int_tuple, isTy_int_list, isTy_int_dict, isTy_int_bool, isTy_str_int, isTy_str_str, isTy_str_tuple, isTy_str_list, isTy_str_dict, isTy_str_bool, isTy_tup_int, isTy_tup_str, isTy_tup_tuple, isTy_tup_list, isTy_tup_dict, isTy_tup_bool, isTy_lst_int, isTy_lst_str, isTy_lst_tuple, isTy_lst_list, isTy_lst_dict, isTy_lst_bool, isTy_fz_int, isTy_fz_str, isTy_fz_tuple, isTy_fz_list, isTy_fz_dict, isTy_fz_bool, isTy_dct_int, isTy_dct_str, isTy_dct_tuple, isTy_dct_list, isTy_dct_dict, isTy_dct_bool, Option.bind_some, settle_int, settle_str, settle_bl, settle_non, settle_ref, settle_fz, settle_exc, settle_tup, settle_lst, settle_dct, settles_nil, settles_cons, $as,*] $[$l]?)
variable {n : Nat} {S : Sto}
/-! ### draws as functions -/
def tk (xs : List Int) : Int := xs.getLast?.getD 0
def tr (xs : List Int) : List Int := xs.dropLast
theorem c_take {i : Nat} {xs : List Int} (hc : Cl S) (hS : S[i]? = some (.lst (xs.map .int))) : F (n + 1) 9 [.ref i] S = some (.ok (.int (tk xs)) (S.set i (.lst ((tr xs).map .int)))) := by
  refine wpR_is (e__law_take (by simp only [settle_int, settle_str, settle_bl, settle_non, settle_ref, settle_fz, settle_exc, settle_tup, settle_lst, settle_dct, settles_nil, settles_cons]; rfl) ?_)
  unfold b__law_take
  have hl := len_ref hS
  rw [List.length_map] at hl
  rcases List.eq_nil_or_concat xs with rfl | ⟨ys, y, rfl⟩
  · simp! only [hl, List.length_nil, Int.natCast_zero, leave_int0 hc, leave_int hc, leave_bl0 hc, leave_bl hc, leave_str0 hc, leave_str hc, leave_non0 hc, leave_non hc, leave_tup0 hc, leave_tup hc, takeX hc, takeX0 hc]
    exact ⟨rfl, (set_same hS).symm⟩
  · have hm : (ys.concat y).map D.int = ys.map D.int ++ [D.int y] := by simp
    have h0 : ¬ (((ys.concat y).length : Nat) : Int) = 0 := by simp; omega
    rw [hm] at hS
    have hp : mthE .pop (.ref i) [] S = some (.int y, S.set i (.lst (ys.map .int))) := by
      rw [mth_pop, hS]
      simp
    simp! only [hl, h0, rcv_popl hS, hp]
    rw [leave_si0 hc rfl, wpR_ok]
    simp [tk, tr]
/-- a pair in lowest terms -/
def redD (a b : Int) : D := .tup [.int (a / (Int.gcd a b : Nat)), .int (b / (Int.gcd a b : Nat))]
def far (x : Int) : Int := if (x.fdiv 21).fmod 9 = 8 then 100000000000000000039 else 1
def kval : Kd → Int → D
  | .truth, x => .bl (decide (x.fmod 2 = 1))
  | .table m, x => .int (x.fmod m)
  | .range lo hi, x => .tup [.int (lo + x.fmod (hi - lo + 1)), .int 1]
  | .fraction, x => redD ((x.fmod 7 - 3) * far x) (1 + (x.fdiv 7).fmod 3)
def Kd.ok : Kd → Prop
  | .table m => 2 ≤ m ∧ m ≤ 5
  | .range lo hi => -50 ≤ lo ∧ lo ≤ hi ∧ hi ≤ 50
  | _ => True
theorem kval_pure (k : Kd) (x : Int) : (kval k x).pure = true := by cases k <;> rfl
theorem far_bd (x : Int) : 1 ≤ far x ∧ far x ≤ 100000000000000000039 := by unfold far; split <;> omega
theorem c__law_value {k : Kd} {x : Int} (hk : k.ok) (hc : Cl S) : F (n + 3) 13 [k.d, .int x] S = some (.ok (kval k x) S) := by
  refine wpR_is (e__law_value (by simp only [settle_int, settle_str, settle_bl, settle_non, settle_ref, settle_fz, settle_exc, settle_tup, settle_lst, settle_dct, settles_nil, settles_cons, kd_settle]; rfl) ?_)
  unfold b__law_value
  have q1 : decide (("table" : PySem.Str) = "truth") = false := by decide
  have q2 : decide (("range" : PySem.Str) = "truth") = false := by decide
  have q3 : decide (("range" : PySem.Str) = "table") = false := by decide
  have q4 : decide (("fraction" : PySem.Str) = "truth") = false := by decide
  have q5 : decide (("fraction" : PySem.Str) = "table") = false := by decide
  have q6 : decide (("fraction" : PySem.Str) = "range") = false := by decide
  cases k with
  | truth => simp! only [Kd.d, get_app, get_app0, set_app, set_app0, mutOf_r, listOf_r, dictOf_r, idx_r, idx_l, idx_f, idx_tup, mth_append, mth_pop, rcv_append, rcv_pop, rcv_extend, atI_0, atI_1, atI_2, atI_3, atI_4, add_rl, add_lr, add_ll, List.getElem?_cons_zero, List.getElem?_cons_succ, leave_int0 hc, leave_int hc, leave_bl0 hc, leave_bl hc, leave_str0 hc, leave_str hc, leave_non0 hc, leave_non hc, leave_tup0 hc, leave_tup hc, takeX hc, takeX0 hc, kval]
  | table m =>
    have hm : ∀ {S}, binE S .mod (.int x) (.int m) = some (.int (x.fmod m)) := mdl (by have := hk.1; omega)
    simp! only [Kd.d, get_app, get_app0, set_app, set_app0, mutOf_r, listOf_r, dictOf_r, idx_r, idx_l, idx_f, idx_tup, mth_append, mth_pop, rcv_append, rcv_pop, rcv_extend, atI_0, atI_1, atI_2, atI_3, atI_4, add_rl, add_lr, add_ll, List.getElem?_cons_zero, List.getElem?_cons_succ, leave_int0 hc, leave_int hc, leave_bl0 hc, leave_bl hc, leave_str0 hc, leave_str hc, leave_non0 hc, leave_non hc, leave_tup0 hc, leave_tup hc, takeX hc, takeX0 hc, q1, hm, kval]
  | range lo hi =>
    have hm : ∀ {S}, binE S .mod (.int x) (.int (hi - lo + 1)) = some (.int (x.fmod (hi - lo + 1))) := mdl (by have := hk.2.1; omega)
    simp! only [Kd.d, get_app, get_app0, set_app, set_app0, mutOf_r, listOf_r, dictOf_r, idx_r, idx_l, idx_f, idx_tup, mth_append, mth_pop, rcv_append, rcv_pop, rcv_extend, atI_0, atI_1, atI_2, atI_3, atI_4, add_rl, add_lr, add_ll, List.getElem?_cons_zero, List.getElem?_cons_succ, leave_int0 hc, leave_int hc, leave_bl0 hc, leave_bl hc, leave_str0 hc, leave_str hc, leave_non0 hc, leave_non hc, leave_tup0 hc, leave_tup hc, takeX hc, takeX0 hc, q2, q3, hm, kval]
  | fraction =>
    have b7 := fmod_bd (i := x) (j := 7) (by decide)
    have b3 := fmod_bd (i := x.fdiv 7) (j := 3) (by decide)
    have rd : F (n + 2) 12 [.int ((x.fmod 7 - 3) * far x), .int (1 + (x.fdiv 7).fmod 3)] S = some (.ok (redD ((x.fmod 7 - 3) * far x) (1 + (x.fdiv 7).fmod 3)) S) := c__law_reduced (n := n) (by omega) (log_small (by omega) (by omega)) hc
    have hp : ∀ {S}, binE S .pow (.int 10) (.int 20) = some (.int 100000000000000000000) := by intro S; rfl
    have mu : ∀ {S} {y : Int}, 1 ≤ y → y ≤ 100000000000000000039 → binE S .mul (.int (x.fmod 7 - 3)) (.int y) = some (.int ((x.fmod 7 - 3) * y)) := fun h1 h2 => bin_mul (mul_small (by omega) (by omega))
    have lv : ∀ {a b : Int}, leave S.length (redD a b) S = some (.ok (redD a b) S) := by intro a b; exact leave_tup0 hc rfl
    rw [far] at rd
    by_cases h8 : (x.fdiv 21).fmod 9 = 8
    · rw [if_pos h8] at rd
      simp! only [Kd.d, get_app, get_app0, set_app, set_app0, mutOf_r, listOf_r, dictOf_r, idx_r, idx_l, idx_f, idx_tup, mth_append, mth_pop, rcv_append, rcv_pop, rcv_extend, atI_0, atI_1, atI_2, atI_3, atI_4, add_rl, add_lr, add_ll, List.getElem?_cons_zero, List.getElem?_cons_succ, q4, q5, q6, hp, h8, Int.reduceAdd, mu (by decide : (1 : Int) ≤ 100000000000000000039) (by decide), rd, lv, kval, far, if_pos h8]
    · rw [if_neg h8] at rd
      simp! only [Kd.d, get_app, get_app0, set_app, set_app0, mutOf_r, listOf_r, dictOf_r, idx_r, idx_l, idx_f, idx_tup, mth_append, mth_pop, rcv_append, rcv_pop, rcv_extend, atI_0, atI_1, atI_2, atI_3, atI_4, add_rl, add_lr, add_ll, List.getElem?_cons_zero, List.getElem?_cons_succ, q4, q5, q6, hp, h8, mu (by decide : (1 : Int) ≤ 1) (by decide), rd, lv, kval, far, if_neg h8]
end Pg
end
section
set_option Elab.async false
set_option linter.all false
set_option maxRecDepth 100000
set_option maxHeartbeats 8000000
namespace Pg
open Ev
variable {n : Nat} {S : Sto}
/-! ### entries -/
def ed (ks vs : List D) : D := match ks with
  | [] => .dct [] []
  | _ :: _ => .nd ks vs
def keyS (ps : List Kd) (xs : List Int) : List D × List Int := ps.foldl (fun acc p => (acc.1 ++ [kval p ((tk acc.2).fmod 21)], tr acc.2)) ([], xs)
structure En where
  ks : List D
  vs : List D
  xs : List Int
def entStep (ps : List Kd) (kd : Kd) (e : En) : En :=
  let q := keyS ps e.xs
  let r := putK e.ks e.vs (.tup q.1) (kval kd (tk q.2))
  ⟨r.1, r.2, tr q.2⟩
def entS (ps : List Kd) (kd : Kd) (xs : List Int) : Nat → En
  | 0 => ⟨[], [], xs⟩
  | k + 1 => entStep ps kd (entS ps kd xs k)
/-- what stands in the keys and values of entries -/
structure En.Ok (ps : List Kd) (kd : Kd) (e : En) : Prop where
  len : e.ks.length = e.vs.length
  key : ∀ k ∈ e.ks, ∃ zs : List D, k = .tup zs ∧ pures zs = true ∧ D.depth (.tup zs) ≤ 8
  val : ∀ v ∈ e.vs, ∃ x, v = kval kd x
theorem kval_depth (k : Kd) (x : Int) : (kval k x).depth ≤ 1 := by cases k <;> simp [kval, redD, D.depth, depths]
theorem keyS_app (ps : List Kd) (p : Kd) (xs : List Int) : keyS (ps ++ [p]) xs = ((keyS ps xs).1 ++ [kval p ((tk (keyS ps xs).2).fmod 21)], tr (keyS ps xs).2) := by
  unfold keyS
  rw [List.foldl_append]; rfl
theorem keyS_all (ps : List Kd) (xs : List Int) : ∀ z ∈ (keyS ps xs).1, ∃ p x, z = kval p x := by
  unfold keyS
  have : ∀ (ps : List Kd) (acc : List D × List Int), (∀ z ∈ acc.1, ∃ p x, z = kval p x) → ∀ z ∈ (ps.foldl (fun (acc : List D × List Int) p => (acc.1 ++ [kval p ((tk acc.2).fmod 21)], tr acc.2)) acc).1, ∃ p x, z = kval p x := fun ps => by
    induction ps with
    | nil => exact fun _ h => h
    | cons p ps ih =>
      intro acc h
      refine ih _ fun z m => ?_
      rcases List.mem_append.mp m with m | m
      · exact h z m
      · exact ⟨p, _, by simpa using m⟩
  exact this ps ([], xs) fun _ h => nomatch h
theorem keyS_ok (ps : List Kd) (xs : List Int) : pures (keyS ps xs).1 = true ∧ D.depth (.tup (keyS ps xs).1) ≤ 8 := by
  have h := keyS_all ps xs
  refine ⟨pures_of fun z m => ?_, ?_⟩
  · obtain ⟨p, x, rfl⟩ := h z m; exact kval_pure p x
  · have : depths (keyS ps xs).1 ≤ 1 := depths_le _ fun z m => by
      obtain ⟨p, x, rfl⟩ := h z m; exact kval_depth p x
    show depths (keyS ps xs).1 + 1 ≤ 8
    omega
theorem putK_ok {ps : List Kd} {kd : Kd} {e : En} (h : e.Ok ps kd) {zs : List D} {x : Int} {xs : List Int} (hp : pures zs = true) (hd : D.depth (.tup zs) ≤ 8) : En.Ok ps kd ⟨(putK e.ks e.vs (.tup zs) (kval kd x)).1, (putK e.ks e.vs (.tup zs) (kval kd x)).2, xs⟩ := by
  unfold putK
  cases Ev.find e.ks (.tup zs) with
  | some i =>
    refine ⟨by simp [h.len], h.key, fun v m => ?_⟩
    rcases List.mem_or_eq_of_mem_set m with m | m
    · exact h.val v m
    · exact ⟨x, m⟩
  | none =>
    refine ⟨by simp [h.len], fun k m => ?_, fun v m => ?_⟩
    · rcases List.mem_append.mp m with m | m
      · exact h.key k m
      · exact ⟨zs, by simpa using m, hp, hd⟩
    · rcases List.mem_append.mp m with m | m
      · exact h.val v m
      · exact ⟨x, by simpa using m⟩
theorem entS_ok (ps : List Kd) (kd : Kd) (xs : List Int) : ∀ k, (entS ps kd xs k).Ok ps kd
  | 0 => ⟨rfl, (fun _ h => nomatch h), fun _ h => nomatch h⟩
  | k + 1 => by
    obtain ⟨h1, h2⟩ := keyS_ok ps (entS ps kd xs k).xs
    exact putK_ok (entS_ok ps kd xs k) h1 h2
theorem putK_len {ks vs : List D} {k v : D} : (putK ks vs k v).1.length ≤ ks.length + 1 := by
  unfold putK
  cases Ev.find ks k <;> simp
theorem entS_len (ps : List Kd) (kd : Kd) (xs : List Int) : ∀ k, (entS ps kd xs k).ks.length ≤ k
  | 0 => Nat.le_refl _
  | k + 1 => by
    have := entS_len ps kd xs k
    have h2 := putK_len (ks := (entS ps kd xs k).ks) (vs := (entS ps kd xs k).vs) (k := .tup (keyS ps (entS ps kd xs k).xs).1) (v := kval kd (tk (keyS ps (entS ps kd xs k).xs).2))
    show (putK _ _ _ _).1.length ≤ k + 1
    omega
section
variable {ps : List Kd} {kd : Kd} {e : En}
theorem En.Ok.kp (h : e.Ok ps kd) : pures e.ks = true := pures_of fun k m => by
  obtain ⟨zs, rfl, hp, _⟩ := h.key k m
  rw [pure_tup]; exact hp
theorem En.Ok.vp (h : e.Ok ps kd) : pures e.vs = true := pures_of fun k m => by
  obtain ⟨x, rfl⟩ := h.val k m
  exact kval_pure kd x
theorem En.Ok.under (h : e.Ok ps kd) (b : Nat) : (ed e.ks e.vs).under b = true := by
  have h1 := pures_under b _ h.kp
  have h2 := pures_under b _ h.vp
  unfold ed
  split
  · rfl
  · rename_i hk
    unfold D.under
    rw [h2, h1]; rfl
theorem set_ed {i : Nat} {ks vs : List D} {zs : List D} {v : D} (hS : S[i]? = some (ed ks vs)) (hl : ks.length = vs.length) (hn : ks.length < 16777216) (hp : pures zs = true) (hd : D.depth (.tup zs) ≤ 8) (hv : v.pure = true) :
    setItE (.ref i) (.tup zs) v S = some (S.set i (ed (putK ks vs (.tup zs) v).1 (putK ks vs (.tup zs) v).2)) := by
  have tk : tkeyOk (.tup zs) = true := by
    show (pures zs && decide (D.depth (.tup zs) ≤ 8)) = true
    rw [hp, decide_eq_true hd]; rfl
  cases ks with
  | nil =>
    have hvs : vs = [] := List.eq_nil_of_length_eq_zero (by simpa using hl.symm)
    subst hvs
    have hS' : S[i]? = some (.dct [] []) := hS
    unfold setItE
    simp only [hS', settle_pure _ _ hv]
    rw [if_neg (by simp [keyOk]), if_pos (by simp [tk])]
    rfl
  | cons k ks =>
    have hS' : S[i]? = some (.nd (k :: ks) vs) := hS
    unfold setItE
    simp only [hS', settle_pure _ _ hv]
    rw [if_pos (by rw [tk, decide_eq_true hn]; rfl)]
    unfold putK
    cases Ev.find (k :: ks) (.tup zs) <;> rfl
theorem leave_ed {ks vs : List D} {w : D} {T : Sto} (hc : Cl T) (hT : T.length = S.length) (kp : pures ks = true) (vp : pures vs = true) (hw : w.pure = true) :
    leave S.length (.tup [.ref S.length, w]) (T ++ [ed ks vs]) = some (.ok (.tup [ed ks vs, w]) T) := by
  rw [← hT]
  unfold leave
  rw [if_pos (closed_of hc)]
  have hu : (D.ref T.length).under T.length = false := by unfold D.under; exact decide_eq_false (by omega)
  have hut : (D.tup [.ref T.length, w]).under T.length = false := by
    unfold D.under
    rw [unders_all, List.all_cons, hu]; rfl
  have hg : (T ++ [ed ks vs])[T.length]? = some (ed ks vs) := by simp
  have hwr : ∀ {k}, reify (T ++ [ed ks vs]) T.length (k + 1) w = some w := fun {k} => by
    unfold reify
    rw [if_pos (pure_under _ _ hw)]
  have hwt : ∀ {k}, taken (T ++ [ed ks vs]) T.length (k + 1) w = [] := fun {k} => by
    unfold taken
    rw [if_pos (pure_under _ _ hw)]
  have h1 : reify (T ++ [ed ks vs]) T.length 8 (.ref T.length) = some (ed ks vs) := by
    unfold reify
    simp only [hu, hg]
    unfold ed
    cases ks with
    | nil => simp
    | cons k ks => simp [mapM_pure vs vp]
  have h2 : taken (T ++ [ed ks vs]) T.length 8 (.ref T.length) = [T.length] := by
    unfold taken
    simp only [hu, hg]
    unfold ed
    cases ks with
    | nil => simp
    | cons k ks => simp [taken_pure vs vp]
  have h3 : reify (T ++ [ed ks vs]) T.length 9 (.tup [.ref T.length, w]) = some (.tup [ed ks vs, w]) := by
    conv => lhs; unfold reify
    simp only [hut, Bool.false_eq_true, if_false, List.mapM_cons, List.mapM_nil, h1, hwr]
    rfl
  have h4 : taken (T ++ [ed ks vs]) T.length 9 (.tup [.ref T.length, w]) = [T.length] := by
    conv => lhs; unfold taken
    simp only [hut, Bool.false_eq_true, if_false, List.flatMap_cons, List.flatMap_nil, h2, hwt]
    rfl
  rw [h3, h4]
  simp
end
end Pg
end
section
set_option Elab.async false
set_option linter.all false
set_option maxRecDepth 100000
set_option maxHeartbeats 8000000
namespace Pg
open Ev
local macro_rules
  | `(tactic| simp! only [$as,*] $[$l]?) => `(tactic| simp only [wpB_cons, wpB_nil, wpS_set, wpS_setT, wpS_par, wpS_setI, wpS_expr, wpS_ret, wpS_ife, wpS_raise, wpS_try, wpS_aug, wpE_var, wpE_cst, wpE_tup, wpE_lst, wpE_dct0, wpE_bin, wpE_neg, wpE_not, wpE_and, wpE_or, wpE_cmp, wpE_cmp2, wpE_is, wpE_ife, wpE_idx, wpE_sl, wpE_call, wpE_blt, wpE_mth, wpE_isi, wpEs_nil, wpEs_cons, wpR_ok, wpR_ex, wpO_some, wpO_map, wpT_true, wpT_false, wpT_not, wpIfs_nil, wpIfs_one, getV_0, getV_s, List.set_cons_succ, List.set_cons_zero, g0_F, g0_isa, truth_non, truth_bl, truth_int, truth_tup, truth_lst, truth_fz, Option.map_some, Option.isSome_some, if_true, Bool.false_eq_true, if_false, Bool.not_true, Bool.not_false, isPart, setTg, setNames, bin_add, bin_sub, cmp_lt, cmp_gt, cmp_le, cmp_ge, cmp_eq, orD_some, cmp_ne, eq_int, eq_str, abs_int, tuple_seq, list_seq, seqOf_tup, seqOf_lst, seqOf_fz, seqOf_ref, int_bl, mdl, fdl, min2, max2, pu_non, pu_bl, pu_int, pu_str, pu_nil, pu_cons, pure_tup, Bool.and_self, Int.reduceLT, and_true, true_and, decide_true, decide_false, isC_b_non, isC_n_bl, isC_n_int, isC_b_int, isC_n_str, isC_b_str, isC_n_tup, isC_b_tup, isC_n_lst, isC_b_lst, isC_n_fz, isC_b_fz, isC_n_dct, isC_b_dct, isC_n_ref, isC_b_ref, isC_n_exc, isC_b_exc, isC_n_non, isC_true_true_true, isC_true_true_false, isC_true_false_true, isC_true_false_false, isC_false_true_true, isC_false_true_false, isC_false_false_true, isC_false_false_false, isTys_nil, isTys_c, isTy_exv, isTy_exc, isTy_non_int, isTy_non_str, isTy_non_tuple, isTy_non_list, isTy_non_dict, isTy_non_bool, isTy_bl_int, isTy_bl_str, isTy_bl_tuple, isTy_bl_list, isTy_bl_dict, isTy_bl_bool, isTy_int_int, isTy_int_str, isTy_int_tuple, isTy_int_list, isTy_int_dict, isTy_int_bool, isTy_str_int, isTy_str_str, isTy_str_tuple, isTy_str_list, isTy_str_dict, isTy_str_bool, isTy_tup_int, isTy_tup_str, isTy_tup_tuple, isTy_tup_list, isTy_tup_dict, isTy_tup_bool, isTy_lst_int, isTy_lst_str, isTy_lst_tuple, isTy_lst_list, isTy_lst_dict, isTy_lst_bool, isTy_fz_int, isTy_fz_str, isTy_fz_tuple, isTy_fz_list, isTy_fz_dict, isTy_fz_bool, isTy_dct_int, isTy_dct_str, isTy_dct_tuple, isTy_dct_list, isTy_dct_dict, isTy_dct_bool, Option.bind_some, settle_int, settle_str, settle_bl, settle_non, settle_ref, settle_fz, settle_exc, settle_tup, settle_lst, settle_dct, settles_nil, settles_cons, $as,*] $[$l]?)
variable {n : Nat} {S : Sto}
/-- the own thing that _law_entries hands back, and the draws left -/
def entV (ps : List Kd) (kd : Kd) (xs : List Int) : En := entS ps kd (tr xs) ((tk xs).fmod 6).toNat
def entD (ps : List Kd) (kd : Kd) (xs : List Int) : D := .tup [ed (entV ps kd xs).ks (entV ps kd xs).vs, kval kd (tk (entV ps kd xs).xs)]
def entX (ps : List Kd) (kd : Kd) (xs : List Int) : List Int := tr (entV ps kd xs).xs
theorem c__law_entries {ps : List Kd} {kd : Kd} {xs : List Int} {i : Nat} (hps : ∀ p ∈ ps, p.ok) (hkd : kd.ok) (hc : Cl S) (hS : S[i]? = some (.lst (xs.map .int))) :
    F (n + 4) 14 [.tup (ps.map Kd.d), kd.d, .ref i] S = some (.ok (entD ps kd xs) (S.set i (.lst ((entX ps kd xs).map .int)))) := by
  refine wpR_is (e__law_entries (by simp only [settle_int, settle_str, settle_bl, settle_non, settle_ref, settle_fz, settle_exc, settle_tup, settle_lst, settle_dct, settles_nil, settles_cons, settles_pure _ _ (kds_pure ps), kd_settle]; rfl) ?_)
  have clW : ∀ (ys : List Int) (e : En), e.Ok ps kd → Cl (S.set i (.lst (ys.map .int)) ++ [ed e.ks e.vs]) := fun ys e h => (hc.ints ys).app (by
    show ((ed e.ks e.vs).under _ && true) = true
    rw [h.under]; rfl)
  have hSW : ∀ (ys : List Int) (l : Sto), (S.set i (D.lst (ys.map .int)) ++ l)[i]? = some (.lst (ys.map .int)) := fun ys l => get_b (get_set hS)
  have tkW : ∀ (m : Nat) (ys : List Int) (e : En), e.Ok ps kd → F (m + 1) 9 [.ref i] (S.set i (.lst (ys.map .int)) ++ [ed e.ks e.vs]) = some (.ok (.int (tk ys)) (S.set i (.lst ((tr ys).map .int)) ++ [ed e.ks e.vs])) := fun m ys e h => by
    rw [c_take (clW ys e h) (hSW ys _), set_b (get_set hS), List.set_set]
  have e0 : (entS ps kd (tr xs) 0).Ok ps kd := entS_ok ps kd (tr xs) 0
  unfold b__law_entries
  refine wp_then [some (.tup (ps.map Kd.d)), some kd.d, some (.ref i), some (.ref S.length), none, none, none] (S ++ [.dct [] []]) (fun Qn' q => by simp! only [wpB_nil]; exact q) ?_
  have b6 := fmod_bd (i := tk xs) (j := 6) (by decide)
  have t0 : F (n + 3) 9 [.ref i] (S ++ [.dct [] []]) = some (.ok (.int (tk xs)) (S.set i (.lst ((tr xs).map .int)) ++ [.dct [] []])) := by
    have := tkW (n + 2) xs (entS ps kd (tr xs) 0) e0
    rw [set_same hS] at this
    exact this
  rw [wpB_cons]
  refine wp_for (fun k ρ Z => ∃ (u4 u5 : Option D), Z = S.set i (.lst ((entS ps kd (tr xs) k).xs.map .int)) ++ [ed (entS ps kd (tr xs) k).ks (entS ps kd (tr xs) k).vs] ∧ ρ = [some (.tup (ps.map Kd.d)), some kd.d, some (.ref i), some (.ref S.length), u4, u5, none]) ?_
  simp! only [t0]
  refine ⟨_, none, items_r1 (by omega) (by omega), rng_settled, ⟨none, none, rfl, rfl⟩, fun _ _ _ _ => trivial, ?_, ?_⟩
  · rintro k y ρ Z hd ⟨u4, u5, rfl, rfl⟩
    obtain ⟨rfl, hk⟩ := rng_at hd
    have ek := entS_ok ps kd (tr xs) k
    have ln := entS_len ps kd (tr xs) k
    generalize he : entS ps kd (tr xs) k = e at ek ln
    obtain ⟨kp, kd8⟩ := keyS_ok ps e.xs
    refine wp_then [some (.tup (ps.map Kd.d)), some kd.d, some (.ref i), some (.ref S.length), some (.int k), some (.tup (keyS ps e.xs).1), none] (S.set i (.lst ((keyS ps e.xs).2.map .int)) ++ [ed e.ks e.vs]) (fun Qn' q => ?_) ?_
    · simp! only [wpB_nil]
      refine wp_comp (fun j vs Z => vs = (keyS (ps.take j) e.xs).1 ∧ Z = S.set i (.lst ((keyS (ps.take j) e.xs).2.map .int)) ++ [ed e.ks e.vs]) ?_
      simp! only [wpB_nil]
      refine ⟨_, none, items_tup, pures_settled _ (kds_pure ps), ⟨rfl, rfl⟩, fun _ _ _ _ => trivial, ?_, ?_⟩
      · rintro j y vs Z hd ⟨rfl, rfl⟩
        rw [List.getElem?_map] at hd
        obtain ⟨p, hp, rfl⟩ := Option.map_eq_some_iff.mp hd
        have tj := tkW (n + 2) (keyS (ps.take j) e.xs).2 e ek
        have vj := c__law_value (n := n) (k := p) (x := (tk (keyS (ps.take j) e.xs).2).fmod 21) (hps p (List.mem_of_getElem? hp)) (clW (tr (keyS (ps.take j) e.xs).2) e ek)
        simp! only [tj, vj]
        have e1 : ps.take (j + 1) = ps.take j ++ [p] := by rw [List.take_succ, hp]; rfl
        rw [e1, keyS_app]
        exact ⟨rfl, rfl⟩
      · rintro vs Z ⟨rfl, rfl⟩
        rw [List.length_map, List.take_length]
        simp! only [settles_pure _ _ kp]
        exact q
    · have tj := tkW (n + 2) (keyS ps e.xs).2 e ek
      have vj := c__law_value (n := n) (k := kd) (x := tk (keyS ps e.xs).2) hkd (clW (tr (keyS ps e.xs).2) e ek)
      have hlen : (S.set i (D.lst ((tr (keyS ps e.xs).2).map .int))).length = S.length := by simp
      have hg : (S.set i (D.lst ((tr (keyS ps e.xs).2).map .int)) ++ [ed e.ks e.vs])[S.length]? = some (ed e.ks e.vs) := by rw [← hlen]; simp
      have st := set_ed (v := kval kd (tk (keyS ps e.xs).2)) hg ek.len (by omega) kp kd8 (kval_pure _ _)
      have e2 : (S.set i (D.lst ((tr (keyS ps e.xs).2).map .int)) ++ [ed e.ks e.vs]).set S.length (ed (putK e.ks e.vs (.tup (keyS ps e.xs).1) (kval kd (tk (keyS ps e.xs).2))).1 (putK e.ks e.vs (.tup (keyS ps e.xs).1) (kval kd (tk (keyS ps e.xs).2))).2) = S.set i (D.lst ((tr (keyS ps e.xs).2).map .int)) ++ [ed (putK e.ks e.vs (.tup (keyS ps e.xs).1) (kval kd (tk (keyS ps e.xs).2))).1 (putK e.ks e.vs (.tup (keyS ps e.xs).1) (kval kd (tk (keyS ps e.xs).2))).2] := by
        rw [List.set_append_right _ _ (by simp)]; simp
      rw [e2] at st
      simp! only [tj, vj, st]
      rw [show entS ps kd (tr xs) (k + 1) = entStep ps kd e by rw [← he]; rfl]
      exact ⟨_, _, rfl, rfl⟩
  · rintro ρ Z ⟨u4, u5, rfl, rfl⟩
    rw [rng_len]
    have ek := entS_ok ps kd (tr xs) ((tk xs).fmod 6).toNat
    show wpB _ _ _ _ _ _ _
    rw [show entS ps kd (tr xs) ((tk xs).fmod 6).toNat = entV ps kd xs from rfl] at ek ⊢
    have tj := tkW (n + 2) (entV ps kd xs).xs _ ek
    have vj := c__law_value (n := n) (k := kd) (x := tk (entV ps kd xs).xs) hkd (clW (tr (entV ps kd xs).xs) _ ek)
    simp! only [tj, vj]
    rw [leave_ed (hc.ints _) (by simp) ek.kp ek.vp (kval_pure _ _), wpR_ok]
    exact ⟨rfl, rfl⟩
end Pg
end
section
set_option Elab.async false
set_option linter.all false
set_option maxRecDepth 100000
set_option maxHeartbeats 8000000
namespace Pg
open Ev
variable {n : Nat} {S : Sto}
/-! ### values -/
inductive OV where
  | pu (k : Kd) (x : Int)
  | en (ps : List Kd) (kd : Kd) (xs : List Int)
def OV.w : OV → D
  | .pu k x => kval k x
  | .en ps kd xs => kval kd (tk (entV ps kd xs).xs)
def OV.own : OV → D
  | .pu k x => kval k x
  | .en ps kd xs => entD ps kd xs
def OV.at (b : Nat) : OV → D
  | .pu k x => kval k x
  | .en ps kd xs => .tup [.ref b, kval kd (tk (entV ps kd xs).xs)]
def OV.ins : OV → List D
  | .pu _ _ => []
  | .en ps kd xs => [ed (entV ps kd xs).ks (entV ps kd xs).vs]
def rowV : Rw → List Int → OV
  | .unk _ k, xs => .pu k (tk xs)
  | .row _ a b, xs => .en [a] b xs
  | .fun_ _ ps k, xs => .en ps k xs
def rowX : Rw → List Int → List Int
  | .unk _ _, xs => tr xs
  | .row _ a b, xs => entX [a] b xs
  | .fun_ _ ps k, xs => entX ps k xs
def ovS (rs : List Rw) (xs : List Int) : List OV × List Int := rs.foldl (fun acc r => (acc.1 ++ [rowV r acc.2], rowX r acc.2)) ([], xs)
def atL : Nat → List OV → List D
  | _, [] => []
  | b, o :: os => o.at b :: atL (b + o.ins.length) os
def inL (os : List OV) : List D := os.flatMap OV.ins
def nms (rs : List Rw) : List D := rs.map fun r => .str r.nm
theorem ovS_app (rs : List Rw) (r : Rw) (xs : List Int) : ovS (rs ++ [r]) xs = ((ovS rs xs).1 ++ [rowV r (ovS rs xs).2], rowX r (ovS rs xs).2) := by
  unfold ovS
  rw [List.foldl_append]; rfl
theorem ovS_len : ∀ (rs : List Rw) (xs : List Int), (ovS rs xs).1.length = rs.length := fun rs xs => by
  unfold ovS
  have : ∀ (rs : List Rw) (acc : List OV × List Int), (rs.foldl (fun (acc : List OV × List Int) r => (acc.1 ++ [rowV r acc.2], rowX r acc.2)) acc).1.length = acc.1.length + rs.length := fun rs => by
    induction rs with
    | nil => exact fun _ => rfl
    | cons r rs ih => intro acc; rw [List.foldl_cons, ih]; simp; omega
  rw [this]; simp
theorem atL_app : ∀ (os : List OV) (b : Nat) (o : OV), atL b (os ++ [o]) = atL b os ++ [o.at (b + (inL os).length)]
  | [], b, o => by simp [atL, inL]
  | p :: os, b, o => by
    show p.at b :: atL (b + p.ins.length) (os ++ [o]) = p.at b :: atL (b + p.ins.length) os ++ [_]
    rw [atL_app os]
    have : b + p.ins.length + (inL os).length = b + (inL (p :: os)).length := by
      unfold inL; rw [List.flatMap_cons, List.length_append]; omega
    rw [this]; rfl
theorem inL_app (os : List OV) (o : OV) : inL (os ++ [o]) = inL os ++ o.ins := by unfold inL; simp
theorem atL_len : ∀ (os : List OV) (b : Nat), (atL b os).length = os.length
  | [], _ => rfl
  | o :: os, b => by
    show (atL _ os).length + 1 = os.length + 1
    rw [atL_len os]
theorem w_pure (o : OV) : o.w.pure = true := by cases o <;> exact kval_pure _ _
theorem entV_ok (ps : List Kd) (kd : Kd) (xs : List Int) : (entV ps kd xs).Ok ps kd := entS_ok _ _ _ _
/-- what stands at b and behind is inside -/
def InAt (Z : Sto) (b : Nat) (l : List D) : Prop := ∀ j x, l[j]? = some x → Z[b + j]? = some x
theorem InAt.app {Z : Sto} {b : Nat} {l m : List D} (h : InAt Z b (l ++ m)) : InAt Z b l ∧ InAt Z (b + l.length) m := by
  refine ⟨fun j x e => h j x ?_, fun j x e => ?_⟩
  · rw [List.getElem?_append_left (List.getElem?_eq_some_iff.mp e).1]; exact e
  · have := h (l.length + j) x (by rw [List.getElem?_append_right (by omega)]; simpa using e)
    rwa [← Nat.add_assoc] at this
section
variable {Z : Sto} {B : Nat}
theorem reify_ed {b k : Nat} {e : En} {ps : List Kd} {kd : Kd} (hb : B ≤ b) (hz : Z[b]? = some (ed e.ks e.vs)) (he : e.Ok ps kd) : reify Z B (k + 2) (.ref b) = some (ed e.ks e.vs) ∧ taken Z B (k + 2) (.ref b) = [b] := by
  have hu : (D.ref b).under B = false := by unfold D.under; exact decide_eq_false (by omega)
  constructor
  · unfold reify
    simp only [hu, hz]
    have vp := he.vp
    generalize e.ks = ks
    generalize e.vs = vs at vp
    unfold ed
    cases ks with
    | nil => simp
    | cons k ks => simp [mapM_pure vs vp]
  · unfold taken
    simp only [hu, hz]
    have vp := he.vp
    generalize e.ks = ks
    generalize e.vs = vs at vp
    unfold ed
    cases ks with
    | nil => simp
    | cons k ks => simp [taken_pure vs vp]
theorem reify_ov {b k : Nat} (hb : B ≤ b) (o : OV) (hz : InAt Z b o.ins) : reify Z B (k + 3) (o.at b) = some o.own ∧ taken Z B (k + 3) (o.at b) = List.range' b o.ins.length := by
  cases o with
  | pu kd x =>
    have hp := pure_under B _ (kval_pure kd x)
    constructor
    · show reify Z B (k + 3) (kval kd x) = some (kval kd x)
      unfold reify; rw [if_pos hp]
    · show taken Z B (k + 3) (kval kd x) = []
      unfold taken; rw [if_pos hp]
  | en ps kd xs =>
    have hz0 : Z[b]? = some (ed (entV ps kd xs).ks (entV ps kd xs).vs) := hz 0 _ rfl
    obtain ⟨h1, h2⟩ := reify_ed (k := k) hb hz0 (entV_ok ps kd xs)
    have hw := kval_pure kd (tk (entV ps kd xs).xs)
    have hu : (D.ref b).under B = false := by unfold D.under; exact decide_eq_false (by omega)
    have hut : (D.tup [.ref b, kval kd (tk (entV ps kd xs).xs)]).under B = false := by
      unfold D.under
      rw [unders_all, List.all_cons, hu]; rfl
    have hwr : reify Z B (k + 2) (kval kd (tk (entV ps kd xs).xs)) = some (kval kd (tk (entV ps kd xs).xs)) := by
      unfold reify
      rw [if_pos (pure_under _ _ hw)]
    have hwt : taken Z B (k + 2) (kval kd (tk (entV ps kd xs).xs)) = [] := by
      unfold taken
      rw [if_pos (pure_under _ _ hw)]
    constructor
    · show reify Z B (k + 3) (.tup [.ref b, _]) = some (.tup [_, _])
      conv => lhs; unfold reify
      simp only [hut, Bool.false_eq_true, if_false, List.mapM_cons, List.mapM_nil, h1, hwr]
      rfl
    · show taken Z B (k + 3) (.tup [.ref b, _]) = [b]
      conv => lhs; unfold taken
      simp only [hut, Bool.false_eq_true, if_false, List.flatMap_cons, List.flatMap_nil, h2, hwt]
      rfl
theorem reify_ovs {k : Nat} : ∀ (os : List OV) (b : Nat), B ≤ b → InAt Z b (inL os) → (atL b os).mapM (reify Z B (k + 3)) = some (os.map OV.own) ∧ (atL b os).flatMap (taken Z B (k + 3)) = List.range' b (inL os).length
  | [], b, _, _ => ⟨rfl, rfl⟩
  | o :: os, b, hb, hz => by
    have hz' : InAt Z b (o.ins ++ inL os) := hz
    obtain ⟨z1, z2⟩ := hz'.app
    obtain ⟨h1, h2⟩ := reify_ov (k := k) hb o z1
    obtain ⟨i1, i2⟩ := reify_ovs (k := k) os (b + o.ins.length) (by omega) z2
    refine ⟨?_, ?_⟩
    · show (o.at b :: atL (b + o.ins.length) os).mapM _ = _
      rw [List.mapM_cons, h1, i1]; rfl
    · show (o.at b :: atL (b + o.ins.length) os).flatMap _ = _
      rw [List.flatMap_cons, h2, i2, show inL (o :: os) = o.ins ++ inL os from rfl, List.length_append, ← List.range'_append_1]
theorem leave_vals {T l : Sto} {c b : Nat} {ks : List D} {os : List OV} (hc : Cl T) (hg : (T ++ l)[c]? = some (.dct ks (atL b os))) (h1 : T.length ≤ c) (h2 : c < b) (hz : InAt (T ++ l) b (inL os)) :
    leave T.length (.ref c) (T ++ l) = some (.ok (.dct ks (os.map OV.own)) T) := by
  unfold leave
  rw [if_pos (closed_of hc)]
  have hu : (D.ref c).under T.length = false := by unfold D.under; exact decide_eq_false (by omega)
  obtain ⟨r1, r2⟩ := reify_ovs (k := 5) (B := T.length) os b (by omega) hz
  have h3 : reify (T ++ l) T.length 9 (.ref c) = some (.dct ks (os.map OV.own)) := by
    unfold reify
    simp only [hu, hg, Bool.false_eq_true, if_false, r1]
    rfl
  have h4 : taken (T ++ l) T.length 9 (.ref c) = List.range' b (inL os).length ++ [c] := by
    unfold taken
    simp only [hu, hg, Bool.false_eq_true, if_false, r2]
  rw [h3, h4]
  have nd : (List.range' b (inL os).length ++ [c]).Nodup := by
    refine List.nodup_append.mpr ⟨List.nodup_range', by simp, fun x hx y hy e => ?_⟩
    have hy' : y = c := by simpa using hy
    have := (List.mem_range'_1.mp hx).1
    omega
  simp only [nd, if_true]
  simp
end
theorem settle_ed {e : En} {ps : List Kd} {kd : Kd} (he : e.Ok ps kd) : settle (ed e.ks e.vs) S = (.ref S.length, S ++ [ed e.ks e.vs]) := by
  have vp := he.vp
  generalize e.ks = ks
  generalize e.vs = vs at vp
  unfold ed
  cases ks with
  | nil => simp [settle, settles]
  | cons k ks => simp [settle, settles_pure _ _ vp]
theorem settle_own (o : OV) : settle o.own S = (o.at S.length, S ++ o.ins) := by
  cases o with
  | pu k x =>
    show settle (kval k x) S = (kval k x, S ++ [])
    rw [settle_pure _ _ (kval_pure k x), List.append_nil]
  | en ps kd xs =>
    show settle (.tup [ed _ _, _]) S = (.tup [.ref S.length, _], S ++ [_])
    rw [settle_tup, settles_cons, settle_ed (entV_ok ps kd xs)]
    simp only [settles_cons, settles_nil, settle_pure _ _ (kval_pure kd _)]
theorem setI_d {i : Nat} {ks vs : List D} {nm : PySem.Str} {v : D} (hS : S[i]? = some (.dct ks vs)) (hl : ks.length < 16777216) : setItE (.ref i) (.str nm) v S = some ((settle v S).2.set i (.dct (putK ks vs (.str nm) (settle v S).1).1 (putK ks vs (.str nm) (settle v S).1).2)) := by
  unfold setItE
  simp only [hS]
  rw [if_pos (by rw [decide_eq_true hl]; rfl)]
theorem put_new2 {K : List PySem.Str} {vs : List D} {v : D} {nm : PySem.Str} (h : nm ∉ K) : putK (K.map .str) vs (.str nm) v = ((K ++ [nm]).map .str, vs ++ [v]) := by
  unfold putK
  have : Ev.find (K.map .str) (.str nm) = none := by
    cases e : Ev.find (K.map .str) (.str nm) with
    | none => rfl
    | some j =>
      have := find_mem nm K
      rw [e] at this
      simp at this
      exact absurd this h
  rw [this]
  simp
end Pg
end
section
set_option Elab.async false
set_option linter.all false
set_option maxRecDepth 100000
set_option maxHeartbeats 8000000
namespace Pg
open Ev
local macro_rules
  | `(tactic| simp! only [$as,*] $[$l]?) => `(tactic| simp only [wpB_cons, wpB_nil, wpS_set, wpS_setT, wpS_par, wpS_setI, wpS_expr, wpS_ret, wpS_ife, wpS_raise, wpS_try, wpS_aug, wpE_var, wpE_cst, wpE_tup, wpE_lst, wpE_dct0, wpE_bin, wpE_neg, wpE_not, wpE_and, wpE_or, wpE_cmp, wpE_cmp2, wpE_is, wpE_ife, wpE_idx, wpE_sl, wpE_call, wpE_blt, wpE_mth, wpE_isi, wpEs_nil, wpEs_cons, wpR_ok, wpR_ex, wpO_some, wpO_map, wpT_true, wpT_false, wpT_not, wpIfs_nil, wpIfs_one, getV_0, getV_s, List.set_cons_succ, List.set_cons_zero, g0_F, g0_isa, truth_non, truth_bl, truth_int, truth_tup, truth_lst, truth_fz, Option.map_some, Option.isSome_some, if_true, Bool.false_eq_true, if_false, Bool.not_true, Bool.not_false, isPart, setTg, setNames, bin_add, bin_sub, cmp_lt, cmp_gt, cmp_le, cmp_ge, cmp_eq, orD_some, cmp_ne, eq_int, eq_str, abs_int, tuple_seq, list_seq, seqOf_tup, seqOf_lst, seqOf_fz, seqOf_ref, int_bl, mdl, fdl, min2, max2, pu_non, pu_bl, pu_int, pu_str, pu_nil, pu_cons, pure_tup, Bool.and_self, Int.reduceLT, and_true, true_and, decide_true, decide_false, isC_b_non, isC_n_bl, isC_n_int, isC_b_int, isC_n_str, isC_b_str, isC_n_tup, isC_b_tup, isC_n_lst, isC_b_lst, isC_n_fz, isC_b_fz, isC_n_dct, isC_b_dct, isC_n_ref, isC_b_ref, isC_n_exc, isC_b_exc, isC_n_non, isC_true_true_true, isC_true_true_false, isC_true_false_true, isC_true_false_false, isC_false_true_true, isC_false_true_false, isC_false_false_true, isC_false_false_false, isTys_nil, isTys_c, isTy_exv, isTy_exc, isTy_non_int, isTy_non_str, isTy_non_tuple, isTy_non_list, isTy_non_dict, isTy_non_bool, isTy_bl_int, isTy_bl_str, isTy_bl_tuple, isTy_bl_list, isTy_bl_dict, isTy_bl_bool, isTy_int_int, isTy_int_str, isTy_int_tuple, isTy_int_list, isTy_int_dict, isTy_int_bool, isTy_str_int, isTy_str_str, isTy_str_tuple, isTy_str_list, isTy_str_dict, isTy_str_bool, isTy_tup_int, isTy_tup_str, isTy_tup_tuple, isTy_tup_list, isTy_tup_dict, isTy_tup_bool, isTy_lst_int, isTy_lst_str, isTy_lst_tuple, isTy_lst_list, isTy_lst_dict, isTy_lst_bool, isTy_fz_int, isTy_fz_str, isTy_fz_tuple, isTy_fz_list, isTy_fz_dict, isTy_fz_bool, isTy_dct_int, isTy_dct_str, isTy_dct_tuple, isTy_dct_list, isTy_dct_dict, isTy_dct_bool, Option.bind_some, settle_int, settle_str, settle_bl, settle_non, settle_ref, settle_fz, settle_exc, settle_tup, settle_lst, settle_dct, settles_nil, settles_cons, $as,*] $[$l]?)
variable {n : Nat} {S : Sto}
def Rw.ok : Rw → Prop
  | .unk _ k => k.ok
  | .row _ a b => a.ok ∧ b.ok
  | .fun_ _ ps k => (∀ p ∈ ps, p.ok) ∧ k.ok
def ns (rs : List Rw) : List PySem.Str := rs.map Rw.nm
/-- the own dict of values -/
def valD (rs : List Rw) (xs : List Int) : D := .dct ((ns rs).map .str) ((ovS rs xs).1.map OV.own)
theorem at_under {b c : Nat} (o : OV) (h : b + o.ins.length ≤ c) : (o.at b).under c = true := by
  cases o with
  | pu k x => exact pure_under _ _ (kval_pure k x)
  | en ps kd xs =>
    show (D.tup [.ref b, _]).under c = true
    unfold D.under
    have h' : b + 1 ≤ c := h
    have e1 : (D.ref b).under c = true := by unfold D.under; exact decide_eq_true (by omega)
    simp [unders, e1, pure_under c _ (kval_pure kd _)]
theorem ats_under {c : Nat} : ∀ (os : List OV) (b : Nat), b + (inL os).length ≤ c → unders c (atL b os) = true
  | [], _, _ => rfl
  | o :: os, b, h => by
    have h' : b + (o.ins ++ inL os).length ≤ c := h
    rw [List.length_append] at h'
    show ((o.at b).under c && unders c (atL (b + o.ins.length) os)) = true
    rw [at_under o (by omega), ats_under os _ (by omega)]; rfl
theorem ins_under {c : Nat} : ∀ os : List OV, unders c (inL os) = true
  | [] => rfl
  | o :: os => by
    show unders c (o.ins ++ inL os) = true
    rw [unders_all, List.all_append, ← unders_all, ← unders_all, ins_under os]
    cases o with
    | pu k x => rfl
    | en ps kd xs =>
      show (((ed _ _).under c && true) && true) = true
      rw [(entV_ok ps kd xs).under]; rfl
theorem strs_under {c : Nat} (K : List PySem.Str) : unders c (K.map D.str) = true := pures_under _ _ (pures_of fun d m => by
  obtain ⟨x, _, rfl⟩ := List.mem_map.mp m; rfl)
theorem cl_vals {ys : List Int} {K : List PySem.Str} {os : List OV} (hc : Cl S) : Cl (S ++ (.lst (ys.map .int) :: .dct (K.map .str) (atL (S.length + 2) os) :: inL os)) := by
  refine hc.app ?_
  have h1 : (D.lst (ys.map .int)).under (S.length + (D.lst (ys.map .int) :: D.dct (K.map .str) (atL (S.length + 2) os) :: inL os).length) = true := ints_under ys
  have h2 : (D.dct (K.map .str) (atL (S.length + 2) os)).under (S.length + (D.lst (ys.map .int) :: D.dct (K.map .str) (atL (S.length + 2) os) :: inL os).length) = true := by
    unfold D.under
    rw [strs_under, ats_under os _ (by simp; omega)]; rfl
  show (_ && (_ && _)) = true
  rw [h1, h2, ins_under os]; rfl
theorem c__law_values {rs : List Rw} {xs : List Int} (hok : ∀ r ∈ rs, r.ok) (hnd : (ns rs).Nodup) (hlen : rs.length ≤ 1000) (hc : Cl S) : F (n + 5) 15 [wd rs, .lst (xs.map .int)] S = some (.ok (valD rs xs) S) := by
  refine wpR_is (e__law_values (by simp only [settle_int, settle_str, settle_bl, settle_non, settle_ref, settle_fz, settle_exc, settle_tup, settle_lst, settle_dct, settles_nil, settles_cons, settles_rw, settles_pure _ _ (ints_pure xs)]; rfl) ?_)
  unfold b__law_values
  refine wp_then [some (wd rs), some (.ref S.length), some (.ref (S.length + 1)), none] (S ++ [.lst (xs.map .int), .dct [] []]) (fun Qn' q => by simp! only [List.length_append, List.length_cons, List.length_nil, Nat.zero_add, Nat.reduceAdd, List.append_assoc, List.cons_append, List.nil_append, Nat.reduceLeDiff, Nat.reduceLT]; exact q) ?_
  rw [wpB_cons]
  refine wp_for (fun k ρ Z => ∃ u3 : Option D, Z = S ++ (.lst ((ovS (rs.take k) xs).2.map .int) :: .dct ((ns (rs.take k)).map .str) (atL (S.length + 2) (ovS (rs.take k) xs).1) :: inL (ovS (rs.take k) xs).1) ∧ ρ = [some (wd rs), some (.ref S.length), some (.ref (S.length + 1)), u3]) ?_
  simp! only [wpB_nil]
  refine ⟨_, none, items_tup, pures_settled _ (rws_pure rs), ⟨none, rfl, rfl⟩, fun _ _ _ _ => trivial, ?_, ?_⟩
  · rintro k y ρ Z hd ⟨u3, rfl, rfl⟩
    rw [List.getElem?_map] at hd
    obtain ⟨r, hr, rfl⟩ := Option.map_eq_some_iff.mp hd
    have hrm := List.mem_of_getElem? hr
    have hrok := hok r hrm
    have e1 : rs.take (k + 1) = rs.take k ++ [r] := by rw [List.take_succ, hr]; rfl
    have hk : k < rs.length := (List.getElem?_eq_some_iff.mp hr).1
    have hns : ns (rs.take (k + 1)) = ns (rs.take k) ++ [r.nm] := by unfold ns; rw [e1]; simp
    have hnm : r.nm ∉ ns (rs.take k) := by
      have h1 : (ns (rs.take (k + 1))).Nodup := hnd.sublist (by unfold ns; exact (List.take_sublist _ _).map _)
      rw [hns] at h1
      exact fun m => (List.nodup_append.mp h1).2.2 _ m _ (by simp) rfl
    have hll : (ns (rs.take k)).length ≤ 1000 := by unfold ns; simp; omega
    rw [hns, e1, ovS_app]
    simp only [atL_app, inL_app]
    generalize hos : (ovS (rs.take k) xs).1 = os
    generalize (ovS (rs.take k) xs).2 = ys
    generalize ns (rs.take k) = K at hnm hll
    -- the store ahead
    have hg0 : ∀ (zs : List Int) (x : D) (l : Sto), (S ++ (.lst (zs.map .int) :: x :: l))[S.length]? = some (.lst (zs.map .int)) := fun zs x l => by simp
    have hg1 : ∀ (x y : D) (l : Sto), (S ++ (x :: y :: l))[S.length + 1]? = some y := fun x y l => by rw [get_app]; rfl
    have st : ∀ (o : OV) (zs : List Int), setItE (.ref (S.length + 1)) (.str r.nm) o.own (S ++ (.lst (zs.map .int) :: .dct (K.map .str) (atL (S.length + 2) os) :: inL os)) = some (S ++ (.lst (zs.map .int) :: .dct ((K ++ [r.nm]).map .str) (atL (S.length + 2) os ++ [o.at (S.length + 2 + (inL os).length)]) :: (inL os ++ o.ins))) := fun o zs => by
      rw [setI_d (hg1 _ _ _) (by simp; omega), settle_own o, put_new2 hnm]
      have hl : (S ++ (D.lst (zs.map .int) :: D.dct (K.map .str) (atL (S.length + 2) os) :: inL os)).length = S.length + 2 + (inL os).length := by simp; omega
      rw [hl, List.append_assoc, set_app]
      rfl
    have cl := fun zs : List Int => cl_vals (ys := zs) (K := K) (os := os) hc
    cases r with
    | unk nm kd =>
      have tj := c_take (n := n + 3) (cl ys) (hg0 ys _ _)
      rw [set_app0] at tj
      have vj := c__law_value (n := n + 1) (k := kd) (x := tk ys) hrok (cl (tr ys))
      have i2 : ∀ {S}, idxE S (Rw.unk nm kd).d (.int 2) = some kd.d := rfl
      have stj := st (.pu kd (tk ys)) (tr ys)
      refine wp_ifT (fun Q' X' q => by simp! only [ix0, Rw.word]; exact q) ?_
      simp! only [ix1, Rw.nm, i2, tj, vj]
      change wpO _ (setItE (.ref (S.length + 1)) (.str (Rw.unk nm kd).nm) (OV.pu kd (tk ys)).own _)
      rw [stj]
      exact ⟨_, by rw [atL_app, inL_app]; rfl, rfl⟩
    | row nm a b =>
      have ej := c__law_entries (n := n) (ps := [a]) (kd := b) (by simpa using hrok.1) hrok.2 (cl ys) (hg0 ys _ _)
      rw [set_app0] at ej
      have q1 : decide (("row" : PySem.Str) = "unknown") = false := by decide
      have i2 : ∀ {S}, idxE S (Rw.row nm a b).d (.int 2) = some a.d := rfl
      have i3 : ∀ {S}, idxE S (Rw.row nm a b).d (.int 3) = some b.d := rfl
      have stj := st (.en [a] b ys) (entX [a] b ys)
      refine wp_ifF (fun Q' X' q => by simp! only [ix0, Rw.word, q1]; exact q) ?_
      refine wp_ifT (fun Q' X' q => by simp! only [ix0, Rw.word]; exact q) ?_
      simp only [List.map_cons, List.map_nil] at ej
      simp! only [ix1, Rw.nm, i2, i3, ej]
      change wpO _ (setItE (.ref (S.length + 1)) (.str (Rw.row nm a b).nm) (OV.en [a] b ys).own _)
      rw [stj]
      exact ⟨_, by rw [atL_app, inL_app]; rfl, rfl⟩
    | fun_ nm ps kr =>
      have ej := c__law_entries (n := n) (ps := ps) (kd := kr) hrok.1 hrok.2 (cl ys) (hg0 ys _ _)
      rw [set_app0] at ej
      have q1 : decide (("function" : PySem.Str) = "unknown") = false := by decide
      have q2 : decide (("function" : PySem.Str) = "row") = false := by decide
      have i2 : ∀ {S}, idxE S (Rw.fun_ nm ps kr).d (.int 2) = some (.tup (ps.map Kd.d)) := rfl
      have i3 : ∀ {S}, idxE S (Rw.fun_ nm ps kr).d (.int 3) = some kr.d := rfl
      have stj := st (.en ps kr ys) (entX ps kr ys)
      refine wp_ifF (fun Q' X' q => by simp! only [ix0, Rw.word, q1]; exact q) ?_
      refine wp_ifF (fun Q' X' q => by simp! only [ix0, Rw.word, q2]; exact q) ?_
      simp! only [ix1, Rw.nm, i2, i3, ej]
      change wpO _ (setItE (.ref (S.length + 1)) (.str (Rw.fun_ nm ps kr).nm) (OV.en ps kr ys).own _)
      rw [stj]
      exact ⟨_, by rw [atL_app, inL_app]; rfl, rfl⟩
  · rintro ρ Z ⟨u3, rfl, rfl⟩
    rw [List.length_map, List.take_length]
    simp! only [wpB_nil]
    rw [leave_vals (c := S.length + 1) (b := S.length + 2) (os := (ovS rs xs).1) hc (by rw [get_app]; rfl) (by omega) (by omega) (fun j x e => by
      rw [Nat.add_assoc, get_app, show 2 + j = j + 1 + 1 by omega]; exact e), wpR_ok]
    exact ⟨rfl, rfl⟩
end Pg
end
section
set_option Elab.async false
set_option linter.all false
set_option maxRecDepth 100000
set_option maxHeartbeats 8000000
namespace Pg
open Ev
variable {n : Nat} {S : Sto}
/-! ### what a term is worth -/
def nP : D → Int × Int
  | .tup [.int a, .int b] => (a, b)
  | _ => (0, 1)
def sumP (vs : List D) : Int × Int := vs.foldl (fun s v => (s.1 * (nP v).2 + (nP v).1 * s.2, s.2 * (nP v).2)) (0, 1)
def getE : OV → D → D
  | .pu _ _, _ => .non
  | .en ps kd xs, k => (getK (entV ps kd xs).ks (entV ps kd xs).vs k).getD (kval kd (tk (entV ps kd xs).xs))
section
variable (lk : PySem.Str → OV)
mutual
def evT : Trm → D
  | .unk nm => (lk nm).w
  | .mem _ j => .int j
  | .num a b => .tup [.int a, .int b]
  | .plus ts => redD (sumP (evTs ts)).1 (sumP (evTs ts)).2
  | .times c t => redD (c * (nP (evT t)).1) (nP (evT t)).2
  | .app nm ts => getE (lk nm) (.tup (evTs ts))
  | .read r t => evR r (evT t)
def evTs : List Trm → List D
  | [] => []
  | t :: ts => evT t :: evTs ts
def evR : Rtm → D → D
  | .row nm, p => getE (lk nm) (.tup [p])
  | .write r a b, p => if (evT a).eqv p = true then evT b else evR r p
end
end
def N : Nat → Nat
  | 0 => 70
  | k + 1 => 3 * N k + 3
theorem N_le : ∀ k, 70 ≤ N k
  | 0 => Nat.le_refl _
  | k + 1 => by have := N_le k; show 70 ≤ 3 * N k + 3; omega
theorem N_mono {k : Nat} : ∀ {m : Nat}, k ≤ m → N k ≤ N m
  | 0, h => by rw [Nat.le_zero.mp h]; exact Nat.le_refl _
  | m + 1, h => by
    rcases Nat.lt_or_ge k (m + 1) with h' | h'
    · have := N_mono (k := k) (m := m) (by omega)
      show N k ≤ 3 * N m + 3
      omega
    · rw [show k = m + 1 by omega]; exact Nat.le_refl _
/-- a value of a sort, of bounded size -/
def VS : So → Nat → D → Prop
  | .num, k, v => ∃ a b, v = .tup [.int a, .int b] ∧ 1 ≤ b ∧ Int.gcd a b = 1 ∧ a.natAbs < 2 ^ N k ∧ b.natAbs < 2 ^ N k
  | .tab m, _, v => ∃ j, v = .int j ∧ 0 ≤ j ∧ j < m
theorem VS.mono {s : So} {k m : Nat} {v : D} (h : k ≤ m) (x : VS s k v) : VS s m v := by
  cases s with
  | tab m => exact x
  | num =>
    obtain ⟨a, b, rfl, h1, h2, h3, h4⟩ := x
    have : 2 ^ N k ≤ 2 ^ N m := Nat.pow_le_pow_right (by omega) (N_mono h)
    exact ⟨a, b, rfl, h1, h2, by omega, by omega⟩
theorem VS.pure {s : So} {k : Nat} {v : D} (x : VS s k v) : v.pure = true ∧ v.depth ≤ 1 := by
  cases s with
  | tab m => obtain ⟨j, rfl, _⟩ := x; exact ⟨rfl, by simp [D.depth]⟩
  | num => obtain ⟨a, b, rfl, _⟩ := x; exact ⟨rfl, by simp [D.depth, depths]⟩
theorem bd_mul {a b : Int} {p q : Nat} (h1 : a.natAbs < 2 ^ p) (h2 : b.natAbs < 2 ^ q) : (a * b).natAbs < 2 ^ (p + q) := by
  rw [Int.natAbs_mul, Nat.pow_add]
  exact Nat.mul_lt_mul_of_lt_of_lt h1 h2
theorem bd_add {a b : Int} {p : Nat} (h1 : a.natAbs < 2 ^ p) (h2 : b.natAbs < 2 ^ p) : (a + b).natAbs < 2 ^ (p + 1) := by
  have := Int.natAbs_add_le a b
  rw [Nat.pow_succ]
  omega
theorem bd_up {a : Int} {p q : Nat} (h1 : a.natAbs < 2 ^ p) (h : p ≤ q) : a.natAbs < 2 ^ q := by
  have : 2 ^ p ≤ 2 ^ q := Nat.pow_le_pow_right (by omega) h
  omega
theorem log_bd {a : Int} {p : Nat} (h : a.natAbs < 2 ^ p) (hp : 0 < p) : a.natAbs.log2 < p := by
  by_cases hz : a.natAbs = 0
  · rw [hz]; simpa using hp
  · exact (Nat.log2_lt hz).mpr h
theorem mul_bd {a b : Int} {p q : Nat} (h1 : a.natAbs < 2 ^ p) (h2 : b.natAbs < 2 ^ q) (hp : 0 < p) (hq : 0 < q) (h : p + q ≤ 1000000) : ∀ {S}, binE S .mul (.int a) (.int b) = some (.int (a * b)) := fun {S} => bin_mul (by
  have := log_bd h1 hp
  have := log_bd h2 hq
  exact decide_eq_true (by omega))
/-- reducing -/
theorem redD_mul {k x y : Int} (hk : 1 ≤ k) (hy : 1 ≤ y) : redD (k * x) (k * y) = redD x y := by
  unfold redD
  have hg : Int.gcd (k * x) (k * y) = k.natAbs * Int.gcd x y := Int.gcd_mul_left k x y
  have hgp := (gcd_le (a := x) hy).1
  have e : ((k.natAbs * Int.gcd x y : Nat) : Int) = k * (Int.gcd x y : Nat) := by
    rw [Int.natCast_mul, Int.natAbs_of_nonneg (by omega)]
  rw [hg, e, Int.mul_ediv_mul_of_pos _ _ (by omega), Int.mul_ediv_mul_of_pos _ _ (by omega)]
theorem redD_vs {a b : Int} {k : Nat} (hb : 1 ≤ b) (h1 : a.natAbs < 2 ^ N k) (h2 : b.natAbs < 2 ^ N k) : VS .num k (redD a b) := by
  obtain ⟨r1, r2, r3, r4, _, _⟩ := red_ok (a := a) hb
  exact ⟨_, _, rfl, r1, r3, by omega, by omega⟩
theorem redD_id {a b : Int} (h : Int.gcd a b = 1) : redD a b = .tup [.int a, .int b] := by unfold redD; rw [h]; simp
theorem kval_vs {k : Kd} {x : Int} {s : So} (hk : k.ok) (hs : k.so = some s) : VS s 0 (kval k x) := by
  cases k with
  | truth => cases hs
  | table m =>
    cases hs
    have b := fmod_bd (i := x) (j := m) (by have := hk.1; omega)
    exact ⟨_, rfl, b.1, b.2⟩
  | range lo hi =>
    cases hs
    obtain ⟨k1, k2, k3⟩ := hk
    have b := fmod_bd (i := x) (j := hi - lo + 1) (by omega)
    have h2 : (1000 : Nat) < 2 ^ N 0 := by decide
    exact ⟨_, _, rfl, by decide, by simp, by omega, by omega⟩
  | fraction =>
    cases hs
    have b7 := fmod_bd (i := x) (j := 7) (by decide)
    have b3 := fmod_bd (i := x.fdiv 7) (j := 3) (by decide)
    obtain ⟨f1, f2⟩ := far_bd x
    refine redD_vs (by omega) ?_ ?_
    · have h1 : (x.fmod 7 - 3).natAbs < 2 ^ 2 := by omega
      have h2 : (far x).natAbs < 2 ^ 67 := by omega
      exact bd_up (bd_mul h1 h2) (by decide)
    · exact bd_up (p := 2) (by omega) (by decide)
theorem getE_vs {ps : List Kd} {kd : Kd} {xs : List Int} {s : So} {k : D} (hk : kd.ok) (hs : kd.so = some s) : VS s 0 (getE (.en ps kd xs) k) := by
  show VS s 0 ((getK (entV ps kd xs).ks (entV ps kd xs).vs k).getD _)
  cases h : getK (entV ps kd xs).ks (entV ps kd xs).vs k with
  | none => exact kval_vs hk hs
  | some v =>
    unfold getK at h
    split at h
    · obtain ⟨x, rfl⟩ := (entV_ok ps kd xs).val v (List.mem_of_getElem? h)
      exact kval_vs hk hs
    · cases h
theorem snoc_ind {α : Type} {P : List α → Prop} (h0 : P []) (h1 : ∀ xs x, P xs → P (xs ++ [x])) : ∀ (m : Nat) (xs : List α), xs.length = m → P xs
  | 0, xs, h => by rw [List.eq_nil_of_length_eq_zero h]; exact h0
  | m + 1, xs, h => by
    rcases List.eq_nil_or_concat xs with rfl | ⟨ys, y, rfl⟩
    · exact h0
    · rw [List.concat_eq_append] at h ⊢
      exact h1 ys y (snoc_ind h0 h1 m ys (by simpa using h))
/-- the sum, part by part -/
theorem sumP_app (vs : List D) (v : D) : sumP (vs ++ [v]) = ((sumP vs).1 * (nP v).2 + (nP v).1 * (sumP vs).2, (sumP vs).2 * (nP v).2) := by
  unfold sumP; rw [List.foldl_append]; rfl
theorem sumP_bd {k : Nat} : ∀ (vs : List D), (∀ v ∈ vs, VS .num k v) → 1 ≤ (sumP vs).2 ∧ (sumP vs).1.natAbs < 2 ^ (vs.length * N k + vs.length) ∧ (sumP vs).2.natAbs ≤ 2 ^ (vs.length * N k) := fun vs => by
  refine snoc_ind (P := fun vs => (∀ v ∈ vs, VS .num k v) → 1 ≤ (sumP vs).2 ∧ (sumP vs).1.natAbs < 2 ^ (vs.length * N k + vs.length) ∧ (sumP vs).2.natAbs ≤ 2 ^ (vs.length * N k)) ?_ ?_ vs.length vs rfl
  · exact fun _ => ⟨by decide, by simp [sumP], by simp [sumP]⟩
  · intro vs v ih h
    obtain ⟨i1, i2, i3⟩ := ih fun x m => h x (by simp [m])
    obtain ⟨a, b, rfl, b1, _, a2, b2⟩ := h v (by simp)
    rw [sumP_app]
    show 1 ≤ (sumP vs).2 * b ∧ ((sumP vs).1 * b + a * (sumP vs).2).natAbs < _ ∧ ((sumP vs).2 * b).natAbs ≤ _
    have hl : (vs ++ [D.tup [.int a, .int b]]).length = vs.length + 1 := by simp
    rw [hl]
    have e1 : (vs.length + 1) * N k + (vs.length + 1) = (vs.length * N k + vs.length + N k) + 1 := by rw [Nat.add_mul]; omega
    have e2 : (vs.length + 1) * N k = vs.length * N k + N k := by rw [Nat.add_mul]; omega
    refine ⟨?_, ?_, ?_⟩
    · have : 1 * 1 ≤ (sumP vs).2 * b := Int.mul_le_mul i1 b1 (by decide) (by omega)
      omega
    · rw [e1]
      refine bd_add (bd_mul i2 b2) ?_
      rw [Int.natAbs_mul]
      have h1 : a.natAbs * (sumP vs).2.natAbs ≤ a.natAbs * 2 ^ (vs.length * N k) := Nat.mul_le_mul_left _ i3
      have h2 : a.natAbs * 2 ^ (vs.length * N k) < 2 ^ N k * 2 ^ (vs.length * N k) := Nat.mul_lt_mul_of_pos_right a2 (Nat.pos_of_ne_zero (by simp))
      have h3 : 2 ^ N k * 2 ^ (vs.length * N k) ≤ 2 ^ (vs.length * N k + vs.length + N k) := by
        rw [← Nat.pow_add]; exact Nat.pow_le_pow_right (by omega) (by omega)
      omega
    · rw [e2, Int.natAbs_mul, Nat.pow_add]
      exact Nat.mul_le_mul i3 (by omega)
theorem sumP_vs {k : Nat} {vs : List D} (hl : vs.length ≤ 3) (h : ∀ v ∈ vs, VS .num k v) : VS .num (k + 1) (redD (sumP vs).1 (sumP vs).2) := by
  obtain ⟨h1, h2, h3⟩ := sumP_bd vs h
  have hm : vs.length * N k ≤ 3 * N k := Nat.mul_le_mul_right _ hl
  refine redD_vs h1 (bd_up h2 ?_) ?_
  · show _ ≤ 3 * N k + 3
    omega
  · have : 2 ^ (vs.length * N k) < 2 ^ N (k + 1) := Nat.pow_lt_pow_right (by omega) (by show _ < 3 * N k + 3; omega)
    omega
end Pg
end
section
set_option Elab.async false
set_option linter.all false
set_option maxRecDepth 100000
set_option maxHeartbeats 8000000
namespace Pg
open Ev
variable {n : Nat} {S : Sto}
section
variable {rs : List Rw} {lk : PySem.Str → OV}
/-- values of the world -/
def Lk (rs : List Rw) (lk : PySem.Str → OV) : Prop := ∀ r ∈ rs, r.ok ∧ ∃ xs, lk r.nm = rowV r xs
mutual
theorem evT_ok (hl : Lk rs lk) : ∀ (t : Trm) (s : So) (k : Nat), okT rs t s k → VS s k (evT lk t)
  | .unk nm, s, k, h => by
    rw [okT] at h
    obtain ⟨kd, hm, hs⟩ := h
    obtain ⟨ho, xs, e⟩ := hl _ hm
    have e' : lk nm = .pu kd (tk xs) := e
    rw [evT, e']
    exact (kval_vs ho hs).mono (Nat.zero_le _)
  | .mem m j, s, k, h => by
    rw [okT] at h
    obtain ⟨rfl, _, _, h1, h2⟩ := h
    rw [evT]
    exact ⟨j, rfl, h1, h2⟩
  | .num a b, s, k, h => by
    rw [okT] at h
    obtain ⟨rfl, h1, h2, h3, h4, h5⟩ := h
    rw [evT]
    have hn : (2000000 : Nat) < 2 ^ 70 := by decide
    exact ⟨a, b, rfl, h3, h5, bd_up (p := 70) (by omega) (N_le k), bd_up (p := 70) (by omega) (N_le k)⟩
  | .plus ts, s, k, h => by
    rw [okT] at h
    obtain ⟨rfl, h1, h2, k', rfl, h3⟩ := h
    obtain ⟨i1, i2⟩ := evTs_ok hl ts _ k' h3
    rw [evT]
    refine sumP_vs (by rw [i1]; exact h2) fun v m => ?_
    obtain ⟨i, hi, ei⟩ := List.mem_iff_getElem.mp m
    obtain ⟨s, e1, e2⟩ := i2 i v (by rw [List.getElem?_eq_getElem hi, ei])
    rw [List.getElem?_map] at e1
    obtain ⟨_, _, rfl⟩ := Option.map_eq_some_iff.mp e1
    exact e2
  | .times c t, s, k, h => by
    rw [okT] at h
    obtain ⟨rfl, h1, h2, k', rfl, h3⟩ := h
    obtain ⟨a, b, e, b1, _, a2, b2⟩ := evT_ok hl t .num k' h3
    rw [evT, e]
    have hN : N (k' + 1) = 3 * N k' + 3 := rfl
    have := N_le k'
    exact redD_vs b1 (bd_up (bd_mul (p := 5) (show c.natAbs < 2 ^ 5 by omega) a2) (by omega)) (bd_up b2 (by omega))
  | .app nm ts, s, k, h => by
    rw [okT] at h
    obtain ⟨ks, kr, ss, k', hm, hs, _, rfl, _⟩ := h
    obtain ⟨ho, xs, e⟩ := hl _ hm
    have e' : lk nm = .en ks kr xs := e
    rw [evT, e']
    exact (getE_vs ho.2 hs).mono (Nat.zero_le _)
  | .read r t, s, k, h => by
    rw [okT] at h
    obtain ⟨nm, a, b, s1, k', hm, _, hs, rfl, hr, _⟩ := h
    rw [evT]
    exact (evR_ok hl r nm s1 s k' 2 (evT lk t) hr hm hs).mono (by omega)
theorem evTs_ok (hl : Lk rs lk) : ∀ (ts : List Trm) (ss : List So) (k : Nat), okTs rs ts ss k → (evTs lk ts).length = ts.length ∧ ∀ (i : Nat) v, (evTs lk ts)[i]? = some v → ∃ s, ss[i]? = some s ∧ VS s k v
  | [], _, _, _ => ⟨by rw [evTs]; rfl, fun i v e => by rw [evTs] at e; simp at e⟩
  | t :: ts, [], _, h => by rw [okTs] at h; exact h.elim
  | t :: ts, s :: ss, k, h => by
    rw [okTs] at h
    have h1 := evT_ok hl t s k h.1
    obtain ⟨h2, h3⟩ := evTs_ok hl ts ss k h.2
    rw [evTs]
    refine ⟨by simp [h2], fun i v e => ?_⟩
    cases i with
    | zero => simp at e; subst e; exact ⟨s, rfl, h1⟩
    | succ i => simpa using h3 i v (by simpa using e)
theorem evR_ok (hl : Lk rs lk) : ∀ (r : Rtm) (nm : PySem.Str) (s1 s2 : So) (k j : Nat) (p : D), okR rs r nm s1 s2 k j → ∀ {a b : Kd}, .row nm a b ∈ rs → b.so = some s2 → VS s2 k (evR lk r p)
  | .row nm', nm, s1, s2, k, j, p, h, a, b, hm, hs => by
    rw [okR] at h
    subst h
    obtain ⟨ho, xs, e⟩ := hl _ hm
    have e' : lk nm' = .en [a] b xs := e
    rw [evR, e']
    exact (getE_vs ho.2 hs).mono (Nat.zero_le _)
  | .write r x w, nm, s1, s2, k, j, p, h, a, b, hm, hs => by
    rw [okR] at h
    obtain ⟨j', _, h1, h2, h3⟩ := h
    rw [evR]
    split
    · exact evT_ok hl w s2 k h3
    · exact evR_ok hl r nm s1 s2 k j' p h1 hm hs
end
/-- the dict of values at object g -/
structure E6 (rs : List Rw) (lk : PySem.Str → OV) (g : Nat) (Z : Sto) : Prop where
  cl : Cl Z
  ty : Lk rs lk
  ix : ∀ r ∈ rs, ∃ b, idxE Z (.ref g) (.str r.nm) = some ((lk r.nm).at b) ∧ InAt Z b (lk r.nm).ins
end
theorem lv0 {v : D} (hc : Cl S) (hv : v.pure = true) : leave S.length v S = some (.ok v S) := leave_pure0 hc hv
theorem get_ed {b : Nat} {e : En} {ps : List Kd} {kd : Kd} {k w : D} (he : e.Ok ps kd) (hz : S[b]? = some (ed e.ks e.vs)) (hk : tkeyOk k = true) : recvOk .get (.ref b) S = true ∧ mthE .get (.ref b) [k, w] S = some ((getK e.ks e.vs k).getD w, S) := by
  have hnk : keyOk k = false := by cases k <;> first | rfl | cases hk
  have hl := he.len
  generalize e.ks = ks at hz hl ⊢
  generalize e.vs = vs at hz hl ⊢
  cases ks with
  | nil =>
    have hvs : vs = [] := List.eq_nil_of_length_eq_zero (by simpa using hl.symm)
    subst hvs
    have hz' : S[b]? = some (.dct [] []) := hz
    have h1 : dictOf S (.ref b) = some ([], []) := by unfold dictOf; simp only [hz']
    have h2 : ndOf S (.ref b) = some ([], []) := by unfold ndOf; simp only [hz']
    refine ⟨by show ((dictOf S (.ref b)).isSome || _) = true; rw [h1]; rfl, ?_⟩
    unfold mthE
    simp only [h1, h2, hnk, hk]
    simp
  | cons x ks =>
    have hz' : S[b]? = some (.nd (x :: ks) vs) := hz
    have h1 : dictOf S (.ref b) = none := by unfold dictOf; simp only [hz']
    have h2 : ndOf S (.ref b) = some (x :: ks, vs) := by unfold ndOf; simp only [hz']
    refine ⟨by show ((dictOf S (.ref b)).isSome || (ndOf S (.ref b)).isSome) = true; rw [h1, h2]; rfl, ?_⟩
    unfold mthE
    simp only [h1, h2, hk]
    simp
theorem tk_ok {vs : List D} (h : ∀ v ∈ vs, v.pure = true ∧ v.depth ≤ 1) : tkeyOk (.tup vs) = true := by
  have h1 : pures vs = true := pures_of fun v m => (h v m).1
  have h2 : depths vs ≤ 1 := depths_le _ fun v m => (h v m).2
  show (pures vs && decide (depths vs + 1 ≤ 8)) = true
  rw [h1, decide_eq_true (by omega)]; rfl
end Pg
end
section
set_option Elab.async false
set_option linter.all false
set_option maxRecDepth 100000
set_option maxHeartbeats 8000000
namespace Pg
open Ev
local macro_rules
  | `(tactic| simp! only [$as,*] $[$l]?) => `(tactic| simp only [wpB_cons, wpB_nil, wpS_set, wpS_setT, wpS_par, wpS_setI, wpS_expr, wpS_ret, wpS_ife, wpS_raise, wpS_try, wpS_aug, wpE_var, wpE_cst, wpE_tup, wpE_lst, wpE_dct0, wpE_bin, wpE_neg, wpE_not, wpE_and, wpE_or, wpE_cmp, wpE_cmp2, wpE_is, wpE_ife, wpE_idx, wpE_sl, wpE_call, wpE_blt, wpE_mth, wpE_isi, wpEs_nil, wpEs_cons, wpR_ok, wpR_ex, wpO_some, wpO_map, wpT_true, wpT_false, wpT_not, wpIfs_nil, wpIfs_one, getV_0, getV_s, List.set_cons_succ, List.set_cons_zero, g0_F, g0_isa, truth_non, truth_bl, truth_int, truth_tup, truth_lst, truth_fz, Option.map_some, Option.isSome_some, if_true, Bool.false_eq_true, if_false, Bool.not_true, Bool.not_false, isPart, setTg, setNames, bin_add, bin_sub, cmp_lt, cmp_gt, cmp_le, cmp_ge, cmp_eq, orD_some, cmp_ne, eq_int, eq_str, abs_int, tuple_seq, list_seq, seqOf_tup, seqOf_lst, seqOf_fz, seqOf_ref, int_bl, mdl, fdl, min2, max2, pu_non, pu_bl, pu_int, pu_str, pu_nil, pu_cons, pure_tup, Bool.and_self, Int.reduceLT, and_true, true_and, decide_true, decide_false, isC_b_non, isC_n_bl, isC_n_int, isC_b_int, isC_n_str, isC_b_str, isC_n_tup, isC_b_tup, isC_n_lst, isC_b_lst, isC_n_fz, isC_b_fz, isC_n_dct, isC_b_dct, isC_n_ref, isC_b_ref, isC_n_exc, isC_b_exc, isC_n_non, isC_true_true_true, isC_true_true_false, isC_true_false_true, isC_true_false_false, isC_false_true_true, isC_false_true_false, isC_false_false_true, isC_false_false_false, isTys_nil, isTys_c, isTy_exv, isTy_exc, isTy_non_int, isTy_non_str, isTy_non_tuple, isTy_non_list, isTy_non_dict, isTy_non_bool, isTy_bl_int, isTy_bl_str, isTy_bl_tuple, isTy_bl_list, isTy_bl_dict, isTy_bl_bool, isTy_int_int, isTy_int_str, isTy_int_tuple, isTy_int_list, isTy_int_dict, isTy_int_bool, isTy_str_int, isTy_str_str, isTy_str_tuple, isTy_str_list, isTy_str_dict, isTy_str_bool, isTy_tup_int, isTy_tup_str, isTy_tup_tuple, isTy_tup_list, isTy_tup_dict, isTy_tup_bool, isTy_lst_int, isTy_lst_str, isTy_lst_tuple, isTy_lst_list, isTy_lst_dict, isTy_lst_bool, isTy_fz_int, isTy_fz_str, isTy_fz_tuple, isTy_fz_list, isTy_fz_dict, isTy_fz_bool, isTy_dct_int, isTy_dct_str, isTy_dct_tuple, isTy_dct_list, isTy_dct_dict, isTy_dct_bool, Option.bind_some, settle_int, settle_str, settle_bl, settle_non, settle_ref, settle_fz, settle_exc, settle_tup, settle_lst, settle_dct, settles_nil, settles_cons, $as,*] $[$l]?)
variable {n : Nat} {S : Sto}
theorem c_divisor_of {a b : Int} (hc : Cl S) : F (n + 1) 0 [.int a, .int b] S = some (.ok (.int (Int.gcd a b)) S) := by
  refine wpR_is (e_divisor_of (by simp only [settle_int, settle_str, settle_bl, settle_non, settle_ref, settle_fz, settle_exc, settle_tup, settle_lst, settle_dct, settles_nil, settles_cons]; rfl) ?_)
  unfold b_divisor_of
  simp! only [wpB_nil]
  have na : ∀ x : Int, (if x < 0 then -x else x) = (x.natAbs : Int) := fun x => by split <;> omega
  rw [na a, na b]
  refine wp_while (fun m ρ S' => ∃ u v : Nat, v = m ∧ Nat.gcd u v = Int.gcd a b ∧ ρ = [some (.int a), some (.int b), some (.int u), some (.int v)] ∧ S' = S) ?_ b.natAbs _ _ ⟨a.natAbs, b.natAbs, rfl, rfl, rfl, rfl⟩
  rintro m ρ S' ⟨u, v, rfl, hg, rfl, rfl⟩
  simp! only [wpB_nil]
  refine wpT_d (fun h => ?_) fun h => ?_
  · have hv : v = 0 := by omega
    subst hv
    simp! only [leave_int0 hc, leave_int hc, leave_bl0 hc, leave_bl hc, leave_str0 hc, leave_str hc, leave_non0 hc, leave_non hc, leave_tup0 hc, leave_tup hc, takeX hc, takeX0 hc]
    rw [Nat.gcd_zero_right] at hg
    rw [hg]
  · have hv : (v : Int) ≠ 0 := h
    simp! only [bin_mod hv]
    have e : (u : Int).fmod (v : Int) = ((u % v : Nat) : Int) := by
      rw [Int.fmod_eq_emod_of_nonneg _ (by omega)]; rfl
    rw [e]
    refine ⟨u % v, ?_, v, u % v, rfl, ?_, rfl⟩
    · exact Nat.mod_lt _ (by omega)
    · rw [← hg, Nat.gcd_comm v, ← Nat.gcd_rec, Nat.gcd_comm]
theorem c_reduced {a b : Int} (hb : 1 ≤ b) (hl : b.natAbs.log2 < 9000) (hc : Cl S) : F (n + 2) 1 [.int a, .int b] S = some (.ok (redD a b) S) := by
  refine wpR_is (e_reduced (by simp only [settle_int, settle_str, settle_bl, settle_non, settle_ref, settle_fz, settle_exc, settle_tup, settle_lst, settle_dct, settles_nil, settles_cons]; rfl) ?_)
  unfold b_reduced
  have q := c_divisor_of (n := n) (a := a) (b := b) hc
  obtain ⟨g1, g2⟩ := gcd_le (a := a) hb
  have hd := div_ok g1 g2 hl
  have f1 : ∀ {x : Int} {S}, binE S .fdiv (.int x) (.int ((Int.gcd a b : Nat) : Int)) = some (.int (x / ((Int.gcd a b : Nat) : Int))) := fun {x S} => by
    rw [bin_fdiv hd, Int.fdiv_eq_ediv_of_nonneg _ (by omega)]
  simp! only [q, f1, leave_int0 hc, leave_int hc, leave_bl0 hc, leave_bl hc, leave_str0 hc, leave_str hc, leave_non0 hc, leave_non hc, leave_tup0 hc, leave_tup hc, takeX hc, takeX0 hc]
  exact rfl
theorem c_sum_of_two {a b c d : Int} {p q : Nat} (h1 : a.natAbs < 2 ^ p) (h2 : b.natAbs < 2 ^ p) (h3 : c.natAbs < 2 ^ q) (h4 : d.natAbs < 2 ^ q) (hb : 1 ≤ b) (hd : 1 ≤ d) (hp : 0 < p) (hq : 0 < q) (hpq : p + q < 9000) (hc : Cl S) :
    F (n + 3) 2 [.tup [.int a, .int b], .tup [.int c, .int d]] S = some (.ok (redD (a * d + c * b) (b * d)) S) := by
  refine wpR_is (e_sum_of_two (by simp only [settle_int, settle_str, settle_bl, settle_non, settle_ref, settle_fz, settle_exc, settle_tup, settle_lst, settle_dct, settles_nil, settles_cons]; rfl) ?_)
  unfold b_sum_of_two
  have m1 : ∀ {S}, binE S .mul (.int a) (.int d) = some (.int (a * d)) := mul_bd h1 h4 hp hq (by omega)
  have m2 : ∀ {S}, binE S .mul (.int c) (.int b) = some (.int (c * b)) := mul_bd h3 h2 hq hp (by omega)
  have m3 : ∀ {S}, binE S .mul (.int b) (.int d) = some (.int (b * d)) := mul_bd h2 h4 hp hq (by omega)
  have hbd : 1 ≤ b * d := by
    have : 1 * 1 ≤ b * d := Int.mul_le_mul hb hd (by decide) (by omega)
    omega
  have q1 := c_reduced (n := n) (a := a * d + c * b) (b := b * d) hbd (by have := log_bd (bd_mul h2 h4) (by omega); omega) hc
  have l1 : ∀ {x y : Int}, leave S.length (redD x y) S = some (.ok (redD x y) S) := fun {x y} => lv0 hc rfl
  simp! only [get_app, get_app0, set_app, set_app0, mutOf_r, listOf_r, dictOf_r, idx_r, idx_l, idx_f, idx_tup, mth_append, mth_pop, rcv_append, rcv_pop, rcv_extend, atI_0, atI_1, atI_2, atI_3, atI_4, add_rl, add_lr, add_ll, List.getElem?_cons_zero, List.getElem?_cons_succ, m1, m2, m3, q1, l1]
section
variable {rs : List Rw} {lk : PySem.Str → OV} {g : Nat} {Z : Sto}
theorem c_looked_up {b : Nat} {ps : List Kd} {kd : Kd} {xs : List Int} {vs : List D} (hc : Cl Z) (hz : InAt Z b (OV.en ps kd xs).ins) (hv : ∀ v ∈ vs, v.pure = true ∧ v.depth ≤ 1) :
    F (n + 1) 4 [(OV.en ps kd xs).at b, .tup vs] Z = some (.ok (getE (.en ps kd xs) (.tup vs)) Z) := by
  have hp : pures vs = true := pures_of fun v m => (hv v m).1
  refine wpR_is (e_looked_up (c0 := (OV.en ps kd xs).at b) (c1 := .tup vs) (S' := Z) (by simp only [OV.at, settle_int, settle_str, settle_bl, settle_non, settle_ref, settle_fz, settle_exc, settle_tup, settle_lst, settle_dct, settles_nil, settles_cons, settles_pure _ _ hp, settle_pure _ _ (kval_pure kd _)]) ?_)
  unfold b_looked_up
  obtain ⟨g1, g2⟩ := get_ed (k := .tup vs) (w := kval kd (tk (entV ps kd xs).xs)) (entV_ok ps kd xs) (show Z[b]? = _ from hz 0 _ rfl) (tk_ok hv)
  have hpv : (getE (.en ps kd xs) (.tup vs)).pure = true := by
    show ((getK _ _ _).getD _).pure = true
    cases h : getK (entV ps kd xs).ks (entV ps kd xs).vs (.tup vs) with
    | none => exact kval_pure _ _
    | some v =>
      unfold getK at h
      split at h
      · obtain ⟨x, rfl⟩ := (entV_ok ps kd xs).val v (List.mem_of_getElem? h)
        exact kval_pure _ _
      · cases h
  have l1 := lv0 hc hpv
  have e1 : (getK (entV ps kd xs).ks (entV ps kd xs).vs (.tup vs)).getD (kval kd (tk (entV ps kd xs).xs)) = getE (.en ps kd xs) (.tup vs) := rfl
  simp! only [OV.at, settle_pure _ _ (kval_pure kd _), g1, g2, e1, l1]
def VO (rs : List Rw) (lk : PySem.Str → OV) (g : Nat) (Z : Sto) (k : Nat) : Prop := ∀ (t : Trm) (s : So) (n : Nat), okT rs t s k → 2 * k + 6 ≤ n → F n 6 [wd rs, .ref g, t.d] Z = some (.ok (evT lk t) Z)
theorem sumP_red {vs : List D} {a b : Int} (h1 : 1 ≤ (sumP vs).2) (hb : 1 ≤ b) : redD ((nP (redD (sumP vs).1 (sumP vs).2)).1 * b + a * (nP (redD (sumP vs).1 (sumP vs).2)).2) ((nP (redD (sumP vs).1 (sumP vs).2)).2 * b) = redD (sumP (vs ++ [.tup [.int a, .int b]])).1 (sumP (vs ++ [.tup [.int a, .int b]])).2 := by
  obtain ⟨r1, r2, r3, r4, r5, r6⟩ := red_ok (a := (sumP vs).1) h1
  obtain ⟨g1, _⟩ := gcd_le (a := (sumP vs).1) h1
  rw [sumP_app]
  show redD (_ / _ * b + a * (_ / _)) (_ / _ * b) = redD ((sumP vs).1 * b + a * (sumP vs).2) ((sumP vs).2 * b)
  generalize (sumP vs).1 / ((Int.gcd (sumP vs).1 (sumP vs).2 : Nat) : Int) = x at r5 ⊢
  generalize (sumP vs).2 / ((Int.gcd (sumP vs).1 (sumP vs).2 : Nat) : Int) = y at r1 r6 ⊢
  generalize ((Int.gcd (sumP vs).1 (sumP vs).2 : Nat) : Int) = G at g1 r5 r6
  rw [r5, r6]
  have hy : 1 ≤ y * b := by
    have : 1 * 1 ≤ y * b := Int.mul_le_mul r1 hb (by decide) (by omega)
    omega
  rw [← redD_mul g1 hy]
  congr 1
  · rw [Int.mul_add, Int.mul_comm x G, Int.mul_comm y G, Int.mul_assoc G x b, Int.mul_left_comm a G y]
  · rw [Int.mul_comm y G, Int.mul_assoc]
theorem evTs_map : ∀ ts : List Trm, evTs lk ts = ts.map (evT lk)
  | [] => by rw [evTs]; rfl
  | t :: ts => by rw [evTs, evTs_map ts]; rfl
theorem okTs_get {k : Nat} : ∀ {ts : List Trm} {ss : List So} {j : Nat} {t : Trm}, okTs rs ts ss k → ts[j]? = some t → ∃ s, ss[j]? = some s ∧ okT rs t s k
  | [], _, _, _, _, e => by simp at e
  | _ :: _, [], _, _, h, _ => by rw [okTs] at h; exact h.elim
  | t' :: ts, s :: ss, 0, t, h, e => by
    rw [okTs] at h
    simp at e; subst e
    exact ⟨s, rfl, h.1⟩
  | t' :: ts, s :: ss, j + 1, t, h, e => by
    rw [okTs] at h
    obtain ⟨s', h1, h2⟩ := okTs_get (j := j) h.2 (by simpa using e)
    exact ⟨s', by simpa using h1, h2⟩
theorem ds_get {ts : List Trm} {j : Nat} {y : D} (h : (Trm.ds ts)[j]? = some y) : ∃ t, ts[j]? = some t ∧ y = t.d := by
  rw [ds_map, List.getElem?_map] at h
  obtain ⟨t, h1, rfl⟩ := Option.map_eq_some_iff.mp h
  exact ⟨t, h1, rfl⟩
theorem N3 {k : Nat} (hk : k ≤ 3) : N k ≤ 1929 := N_mono hk
theorem evTs_take {ts : List Trm} {j : Nat} {t : Trm} (h : ts[j]? = some t) : (evTs lk ts).take (j + 1) = (evTs lk ts).take j ++ [evT lk t] := by
  rw [List.take_succ, evTs_map, List.getElem?_map, h]; rfl
theorem c_sum_value {k : Nat} {ts : List Trm} (e : E6 rs lk g Z) (ih : VO rs lk g Z k) (hts : okTs rs ts (ts.map fun _ => .num) k) (hl : ts.length ≤ 3) (hk : k ≤ 3) (hn : 2 * k + 6 ≤ n) :
    F (n + 1) 3 [wd rs, .ref g, .tup (Trm.ds ts)] Z = some (.ok (redD (sumP (evTs lk ts)).1 (sumP (evTs lk ts)).2) Z) := by
  obtain ⟨m, rfl⟩ : ∃ m, n = m + 3 := ⟨n - 3, by omega⟩
  refine wpR_is (e_sum_value (by simp only [settle_int, settle_str, settle_bl, settle_non, settle_ref, settle_fz, settle_exc, settle_tup, settle_lst, settle_dct, settles_nil, settles_cons, settles_rw, settles_pure _ _ (trms_pure ts)]; rfl) ?_)
  unfold b_sum_value
  obtain ⟨i1, i2⟩ := evTs_ok e.ty ts _ k hts
  have nb := N3 hk
  have all : ∀ v ∈ evTs lk ts, VS .num k v := fun v hv => by
    obtain ⟨i, hi, ei⟩ := List.mem_iff_getElem.mp hv
    obtain ⟨s, e1, e2⟩ := i2 i v (by rw [List.getElem?_eq_getElem hi, ei])
    rw [List.getElem?_map] at e1
    obtain ⟨_, _, rfl⟩ := Option.map_eq_some_iff.mp e1
    exact e2
  refine wp_then [some (wd rs), some (.ref g), some (.tup (Trm.ds ts)), some (redD 0 1), none] Z (fun Qn' q => by simp! only [wpB_nil]; exact q) ?_
  rw [wpB_cons]
  refine wp_for (fun j ρ Z' => Z = Z' ∧ ∃ u4, ρ = [some (wd rs), some (.ref g), some (.tup (Trm.ds ts)), some (redD (sumP ((evTs lk ts).take j)).1 (sumP ((evTs lk ts).take j)).2), u4]) ?_
  simp! only [wpB_nil]
  refine ⟨_, none, items_tup, pures_settled _ (trms_pure ts), ⟨rfl, none, rfl⟩, fun _ _ _ _ => trivial, ?_, ?_⟩
  · rintro j y ρ Z' hd ⟨rfl, u4, rfl⟩
    obtain ⟨t, ht, rfl⟩ := ds_get hd
    obtain ⟨s, hs, hk1⟩ := okTs_get hts ht
    rw [List.getElem?_map] at hs
    obtain ⟨_, _, rfl⟩ := Option.map_eq_some_iff.mp hs
    have v1 := ih t .num (m + 3) hk1 (by omega)
    have hj : j < ts.length := (List.getElem?_eq_some_iff.mp ht).1
    obtain ⟨a, b, ev, b1, _, a2, b2⟩ := evT_ok e.ty t .num k hk1
    obtain ⟨s1, s2, s3⟩ := sumP_bd (k := k) ((evTs lk ts).take j) fun v hv => all v (List.mem_of_mem_take hv)
    have hjl : ((evTs lk ts).take j).length = j := by rw [List.length_take, i1]; omega
    rw [hjl] at s2 s3
    have hjN : j * N k ≤ 2 * N k := Nat.mul_le_mul_right _ (by omega)
    obtain ⟨r1, r2, r3, r4, _, _⟩ := red_ok (a := (sumP ((evTs lk ts).take j)).1) s1
    have p1 : ((sumP ((evTs lk ts).take j)).1 / (Int.gcd (sumP ((evTs lk ts).take j)).1 (sumP ((evTs lk ts).take j)).2 : Nat)).natAbs < 2 ^ (2 * N k + 3) := by
      have := bd_up (a := (sumP ((evTs lk ts).take j)).1) (q := 2 * N k + 3) s2 (by omega)
      omega
    have p2 : ((sumP ((evTs lk ts).take j)).2 / (Int.gcd (sumP ((evTs lk ts).take j)).1 (sumP ((evTs lk ts).take j)).2 : Nat)).natAbs < 2 ^ (2 * N k + 3) := by
      have : 2 ^ (j * N k) < 2 ^ (2 * N k + 3) := Nat.pow_lt_pow_right (by omega) (by omega)
      omega
    have sm := c_sum_of_two (n := m) (q := N k) p1 p2 a2 b2 r1 b1 (by omega) (by have := N_le k; omega) (by omega) e.cl
    rw [← ev] at sm
    have q1 := sumP_red (vs := (evTs lk ts).take j) (a := a) (b := b) s1 b1
    rw [← ev] at q1
    have q2 : redD ((sumP ((evTs lk ts).take j)).1 / (Int.gcd (sumP ((evTs lk ts).take j)).1 (sumP ((evTs lk ts).take j)).2 : Nat) * b + a * ((sumP ((evTs lk ts).take j)).2 / (Int.gcd (sumP ((evTs lk ts).take j)).1 (sumP ((evTs lk ts).take j)).2 : Nat))) ((sumP ((evTs lk ts).take j)).2 / (Int.gcd (sumP ((evTs lk ts).take j)).1 (sumP ((evTs lk ts).take j)).2 : Nat) * b) = redD (sumP ((evTs lk ts).take j ++ [evT lk t])).1 (sumP ((evTs lk ts).take j ++ [evT lk t])).2 := q1
    rw [q2, ← evTs_take ht] at sm
    have sm' : F (m + 3) 2 [redD (sumP ((evTs lk ts).take j)).1 (sumP ((evTs lk ts).take j)).2, evT lk t] Z = some (.ok (redD (sumP ((evTs lk ts).take (j + 1))).1 (sumP ((evTs lk ts).take (j + 1))).2) Z) := sm
    have sr : ∀ {x y : Int}, settle (redD x y) Z = (redD x y, Z) := fun {x y} => settle_pure _ _ rfl
    simp! only [v1, sm', sr]
    exact ⟨_, rfl⟩
  · rintro ρ Z' ⟨rfl, u4, rfl⟩
    have hlen : (Trm.ds ts).length = (evTs lk ts).length := by rw [ds_map, i1]; simp
    rw [hlen, List.take_length]
    have l1 : ∀ {x y : Int}, leave Z.length (redD x y) Z = some (.ok (redD x y) Z) := fun {x y} => lv0 e.cl rfl
    simp! only [l1]
end
end Pg
end
section
set_option Elab.async false
set_option linter.all false
set_option maxRecDepth 100000
set_option maxHeartbeats 8000000
namespace Pg
open Ev
local macro_rules
  | `(tactic| simp! only [$as,*] $[$l]?) => `(tactic| simp only [wpB_cons, wpB_nil, wpS_set, wpS_setT, wpS_par, wpS_setI, wpS_expr, wpS_ret, wpS_ife, wpS_raise, wpS_try, wpS_aug, wpE_var, wpE_cst, wpE_tup, wpE_lst, wpE_dct0, wpE_bin, wpE_neg, wpE_not, wpE_and, wpE_or, wpE_cmp, wpE_cmp2, wpE_is, wpE_ife, wpE_idx, wpE_sl, wpE_call, wpE_blt, wpE_mth, wpE_isi, wpEs_nil, wpEs_cons, wpR_ok, wpR_ex, wpO_some, wpO_map, wpT_true, wpT_false, wpT_not, wpIfs_nil, wpIfs_one, getV_0, getV_s, List.set_cons_succ, List.set_cons_zero, g0_F, g0_isa, truth_non, truth_bl, truth_int, truth_tup, truth_lst, truth_fz, Option.map_some, Option.isSome_some, if_true, Bool.false_eq_true, if_false, Bool.not_true, Bool.not_false, isPart, setTg, setNames, bin_add, bin_sub, cmp_lt, cmp_gt, cmp_le, cmp_ge, cmp_eq, orD_some, cmp_ne, eq_int, eq_str, abs_int, tuple_seq, list_seq, seqOf_tup, seqOf_lst, seqOf_fz, seqOf_ref, int_bl, mdl, fdl, min2, max2, pu_non, pu_bl, pu_int, pu_str, pu_nil, pu_cons, pure_tup, Bool.and_self, Int.reduceLT, and_true, true_and, decide_true, decide_false, isC_b_non, isC_n_bl, isC_n_int, isC_b_int, isC_n_str, isC_b_str, isC_n_tup, isC_b_tup, isC_n_lst, isC_b_lst, isC_n_fz, isC_b_fz, isC_n_dct, isC_b_dct, isC_n_ref, isC_b_ref, isC_n_exc, isC_b_exc, isC_n_non, isC_true_true_true, isC_true_true_false, isC_true_false_true, isC_true_false_false, isC_false_true_true, isC_false_true_false, isC_false_false_true, isC_false_false_false, isTys_nil, isTys_c, isTy_exv, isTy_exc, isTy_non_int, isTy_non_str, isTy_non_tuple, isTy_non_list, isTy_non_dict, isTy_non_bool, isTy_bl_int, isTy_bl_str, isTy_bl_tuple, isTy_bl_list, isTy_bl_dict, isTy_bl_bool, isTy_int_int, isTy_int_str, isTy_int_tuple, isTy_int_list, isTy_int_dict, isTy_int_bool, isTy_str_int, isTy_str_str, isTy_str_tuple, isTy_str_list, isTy_str_dict, isTy_str_bool, isTy_tup_int, isTy_tup_str, isTy_tup_tuple, isTy_tup_list, isTy_tup_dict, isTy_tup_bool, isTy_lst_int, isTy_lst_str, isTy_lst_tuple, isTy_lst_list, isTy_lst_dict, isTy_lst_bool, isTy_fz_int, isTy_fz_str, isTy_fz_tuple, isTy_fz_list, isTy_fz_dict, isTy_fz_bool, isTy_dct_int, isTy_dct_str, isTy_dct_tuple, isTy_dct_list, isTy_dct_dict, isTy_dct_bool, Option.bind_some, settle_int, settle_str, settle_bl, settle_non, settle_ref, settle_fz, settle_exc, settle_tup, settle_lst, settle_dct, settles_nil, settles_cons, $as,*] $[$l]?)
variable {n : Nat} {S : Sto}
section
variable {rs : List Rw} {lk : PySem.Str → OV} {g : Nat} {Z : Sto}
theorem en_row (e : E6 rs lk g Z) {nm : PySem.Str} {a b : Kd} (h : .row nm a b ∈ rs) : ∃ xs c, lk nm = .en [a] b xs ∧ idxE Z (.ref g) (.str nm) = some ((OV.en [a] b xs).at c) ∧ InAt Z c (OV.en [a] b xs).ins := by
  obtain ⟨_, xs, e1⟩ := e.ty _ h
  obtain ⟨c, e2, e3⟩ := e.ix _ h
  have e1' : lk nm = .en [a] b xs := e1
  have e2' : idxE Z (.ref g) (.str nm) = some ((lk nm).at c) := e2
  have e3' : InAt Z c (lk nm).ins := e3
  rw [e1'] at e2' e3'
  exact ⟨xs, c, e1', e2', e3'⟩
theorem en_fun (e : E6 rs lk g Z) {nm : PySem.Str} {ps : List Kd} {b : Kd} (h : .fun_ nm ps b ∈ rs) : ∃ xs c, lk nm = .en ps b xs ∧ idxE Z (.ref g) (.str nm) = some ((OV.en ps b xs).at c) ∧ InAt Z c (OV.en ps b xs).ins := by
  obtain ⟨_, xs, e1⟩ := e.ty _ h
  obtain ⟨c, e2, e3⟩ := e.ix _ h
  have e1' : lk nm = .en ps b xs := e1
  have e2' : idxE Z (.ref g) (.str nm) = some ((lk nm).at c) := e2
  have e3' : InAt Z c (lk nm).ins := e3
  rw [e1'] at e2' e3'
  exact ⟨xs, c, e1', e2', e3'⟩
theorem eq_vs {s : So} {k : Nat} {v p : D} (hv : VS s k v) (hp : p.pure = true ∧ p.depth ≤ 1) : ∀ {S}, eqE S v p = some (v.eqv p) := fun {S} => by
  have := hv.pure.2
  exact eq_pure hv.pure.1 hp.1 (by omega)
theorem c_word_at {k : Nat} {r : Rtm} {nm : PySem.Str} {a b : Kd} {s1 s2 : So} {p : D} (e : E6 rs lk g Z) (ih : VO rs lk g Z k) (hr : okR rs r nm s1 s2 k 2) (hm : .row nm a b ∈ rs) (hb : b.so = some s2) (hp : p.pure = true ∧ p.depth ≤ 1) (hn : 2 * k + 6 ≤ n) :
    F (n + 1) 5 [wd rs, .ref g, r.d, p] Z = some (.ok (evR lk r p) Z) := by
  obtain ⟨m, rfl⟩ : ∃ m, n = m + 1 := ⟨n - 1, by omega⟩
  refine wpR_is (e_word_at (by simp only [settle_int, settle_str, settle_bl, settle_non, settle_ref, settle_fz, settle_exc, settle_tup, settle_lst, settle_dct, settles_nil, settles_cons, settles_rw, rtm_settle, settle_pure _ _ hp.1]; rfl) ?_)
  unfold b_word_at
  rw [wpB_cons]
  refine wp_while (fun j ρ Z' => ∃ r', okR rs r' nm s1 s2 k j ∧ evR lk r' p = evR lk r p ∧ ρ = [some (wd rs), some (.ref g), some r'.d, some p] ∧ Z = Z') ?_ 2 _ _ ⟨r, hr, rfl, rfl, rfl⟩
  rintro j ρ Z' ⟨r', hr', hv, rfl, rfl⟩
  have lv : leave Z.length (evR lk r p) Z = some (.ok (evR lk r p) Z) := lv0 e.cl (evR_ok e.ty r nm s1 s2 k 2 p hr hm hb).pure.1
  cases r' with
  | row nm' =>
    rw [okR] at hr'
    subst hr'
    obtain ⟨xs, c, e1, e2, e3⟩ := en_row e hm
    rw [evR, e1] at hv
    have lu := c_looked_up (n := m) (vs := [p]) e.cl e3 (by simpa using hp)
    rw [hv] at lu
    have q1 : decide (("row" : PySem.Str) = "write") = false := by decide
    simp! only [Rtm.d, get_app, get_app0, set_app, set_app0, mutOf_r, listOf_r, dictOf_r, idx_r, idx_l, idx_f, idx_tup, mth_append, mth_pop, rcv_append, rcv_pop, rcv_extend, atI_0, atI_1, atI_2, atI_3, atI_4, add_rl, add_lr, add_ll, List.getElem?_cons_zero, List.getElem?_cons_succ, q1, e2, lu, lv]
  | write r1 x w =>
    rw [okR] at hr'
    obtain ⟨j', rfl, h1, h2, h3⟩ := hr'
    have v1 := ih x s1 (m + 1) h2 hn
    have v2 := ih w s2 (m + 1) h3 hn
    have vx := evT_ok e.ty x s1 k h2
    have eq : ∀ {S}, eqE S (evT lk x) p = some ((evT lk x).eqv p) := eq_vs vx hp
    rw [evR] at hv
    simp! only [Rtm.d, get_app, get_app0, set_app, set_app0, mutOf_r, listOf_r, dictOf_r, idx_r, idx_l, idx_f, idx_tup, mth_append, mth_pop, rcv_append, rcv_pop, rcv_extend, atI_0, atI_1, atI_2, atI_3, atI_4, add_rl, add_lr, add_ll, List.getElem?_cons_zero, List.getElem?_cons_succ, v1, eq]
    refine wpT_i (fun h => ?_) fun h => ?_
    · rw [if_pos h] at hv
      rw [hv] at v2
      simp! only [get_app, get_app0, set_app, set_app0, mutOf_r, listOf_r, dictOf_r, idx_r, idx_l, idx_f, idx_tup, mth_append, mth_pop, rcv_append, rcv_pop, rcv_extend, atI_0, atI_1, atI_2, atI_3, atI_4, add_rl, add_lr, add_ll, List.getElem?_cons_zero, List.getElem?_cons_succ, v2, lv]
    · rw [if_neg (by rw [h]; exact Bool.false_ne_true)] at hv
      simp! only [get_app, get_app0, set_app, set_app0, mutOf_r, listOf_r, dictOf_r, idx_r, idx_l, idx_f, idx_tup, mth_append, mth_pop, rcv_append, rcv_pop, rcv_extend, atI_0, atI_1, atI_2, atI_3, atI_4, add_rl, add_lr, add_ll, List.getElem?_cons_zero, List.getElem?_cons_succ, rtm_settle]
      exact ⟨j', by omega, r1, h1, hv, rfl⟩
theorem idx_pu (e : E6 rs lk g Z) {nm : PySem.Str} {kd : Kd} (h : .unk nm kd ∈ rs) : idxE Z (.ref g) (.str nm) = some (lk nm).w := by
  obtain ⟨_, xs, e1⟩ := e.ty _ h
  obtain ⟨c, e2, e3⟩ := e.ix _ h
  have e1' : lk nm = .pu kd (tk xs) := e1
  have e2' : idxE Z (.ref g) (.str nm) = some ((lk nm).at c) := e2
  rw [e1'] at e2' ⊢
  exact e2'
theorem tw {a b : PySem.Str} (h : a ≠ b) : decide (a = b) = false := decide_eq_false h
theorem evTs_vs {k : Nat} {ts : List Trm} {ss : List So} (e : E6 rs lk g Z) (h : okTs rs ts ss k) : ∀ v ∈ evTs lk ts, v.pure = true ∧ v.depth ≤ 1 := fun v m => by
  obtain ⟨i1, i2⟩ := evTs_ok e.ty ts ss k h
  obtain ⟨i, hi, ei⟩ := List.mem_iff_getElem.mp m
  obtain ⟨s, _, e2⟩ := i2 i v (by rw [List.getElem?_eq_getElem hi, ei])
  exact e2.pure
theorem c_value_of (e : E6 rs lk g Z) : ∀ k, k ≤ 4 → VO rs lk g Z k := fun k => by
  induction k using Nat.strongRecOn with
  | ind k ih =>
    intro hk t s n ht hn
    obtain ⟨m, rfl⟩ : ∃ m, n = m + 3 := ⟨n - 3, by omega⟩
    refine wpR_is (e_value_of (by simp only [settle_int, settle_str, settle_bl, settle_non, settle_ref, settle_fz, settle_exc, settle_tup, settle_lst, settle_dct, settles_nil, settles_cons, settles_rw, trm_settle]; rfl) ?_)
    have lv : leave Z.length (evT lk t) Z = some (.ok (evT lk t) Z) := lv0 e.cl (evT_ok e.ty t s k ht).pure.1
    unfold b_value_of
    cases t with
    | unk nm =>
      rw [okT] at ht
      obtain ⟨kd, hm, hs⟩ := ht
      have ix := idx_pu e hm
      rw [evT] at lv
      simp! only [Trm.d, get_app, get_app0, set_app, set_app0, mutOf_r, listOf_r, dictOf_r, idx_r, idx_l, idx_f, idx_tup, mth_append, mth_pop, rcv_append, rcv_pop, rcv_extend, atI_0, atI_1, atI_2, atI_3, atI_4, add_rl, add_lr, add_ll, List.getElem?_cons_zero, List.getElem?_cons_succ, ix, lv, evT]
    | mem mm j =>
      rw [evT] at lv
      simp! only [Trm.d, get_app, get_app0, set_app, set_app0, mutOf_r, listOf_r, dictOf_r, idx_r, idx_l, idx_f, idx_tup, mth_append, mth_pop, rcv_append, rcv_pop, rcv_extend, atI_0, atI_1, atI_2, atI_3, atI_4, add_rl, add_lr, add_ll, List.getElem?_cons_zero, List.getElem?_cons_succ, lv, evT, tg_unknown_member, tg_unknown_apply, tg_unknown_read, tg_unknown_number, tg_unknown_plus, tg_unknown_times, tg_unknown_row, tg_unknown_write, tg_unknown_is, tg_unknown_not, tg_unknown_all, tg_unknown_any, tg_unknown_if, tg_unknown_same, tg_unknown_equal, tg_unknown_most, tg_unknown_less, tg_member_unknown, tg_member_apply, tg_member_read, tg_member_number, tg_member_plus, tg_member_times, tg_member_row, tg_member_write, tg_member_is, tg_member_not, tg_member_all, tg_member_any, tg_member_if, tg_member_same, tg_member_equal, tg_member_most, tg_member_less, tg_apply_unknown, tg_apply_member, tg_apply_read, tg_apply_number, tg_apply_plus, tg_apply_times, tg_apply_row, tg_apply_write, tg_apply_is, tg_apply_not, tg_apply_all, tg_apply_any, tg_apply_if, tg_apply_same, tg_apply_equal, tg_apply_most, tg_apply_less, tg_read_unknown, tg_read_member, tg_read_apply, tg_read_number, tg_read_plus, tg_read_times, tg_read_row, tg_read_write, tg_read_is, tg_read_not, tg_read_all, tg_read_any, tg_read_if, tg_read_same, tg_read_equal, tg_read_most, tg_read_less, tg_number_unknown, tg_number_member, tg_number_apply, tg_number_read, tg_number_plus, tg_number_times, tg_number_row, tg_number_write, tg_number_is, tg_number_not, tg_number_all, tg_number_any, tg_number_if, tg_number_same, tg_number_equal, tg_number_most, tg_number_less, tg_plus_unknown, tg_plus_member, tg_plus_apply, tg_plus_read, tg_plus_number, tg_plus_times, tg_plus_row, tg_plus_write, tg_plus_is, tg_plus_not, tg_plus_all, tg_plus_any, tg_plus_if, tg_plus_same, tg_plus_equal, tg_plus_most, tg_plus_less, tg_times_unknown, tg_times_member, tg_times_apply, tg_times_read, tg_times_number, tg_times_plus, tg_times_row, tg_times_write, tg_times_is, tg_times_not, tg_times_all, tg_times_any, tg_times_if, tg_times_same, tg_times_equal, tg_times_most, tg_times_less, tg_row_unknown, tg_row_member, tg_row_apply, tg_row_read, tg_row_number, tg_row_plus, tg_row_times, tg_row_write, tg_row_is, tg_row_not, tg_row_all, tg_row_any, tg_row_if, tg_row_same, tg_row_equal, tg_row_most, tg_row_less, tg_write_unknown, tg_write_member, tg_write_apply, tg_write_read, tg_write_number, tg_write_plus, tg_write_times, tg_write_row, tg_write_is, tg_write_not, tg_write_all, tg_write_any, tg_write_if, tg_write_same, tg_write_equal, tg_write_most, tg_write_less, tg_is_unknown, tg_is_member, tg_is_apply, tg_is_read, tg_is_number, tg_is_plus, tg_is_times, tg_is_row, tg_is_write, tg_is_not, tg_is_all, tg_is_any, tg_is_if, tg_is_same, tg_is_equal, tg_is_most, tg_is_less, tg_not_unknown, tg_not_member, tg_not_apply, tg_not_read, tg_not_number, tg_not_plus, tg_not_times, tg_not_row, tg_not_write, tg_not_is, tg_not_all, tg_not_any, tg_not_if, tg_not_same, tg_not_equal, tg_not_most, tg_not_less, tg_all_unknown, tg_all_member, tg_all_apply, tg_all_read, tg_all_number, tg_all_plus, tg_all_times, tg_all_row, tg_all_write, tg_all_is, tg_all_not, tg_all_any, tg_all_if, tg_all_same, tg_all_equal, tg_all_most, tg_all_less, tg_any_unknown, tg_any_member, tg_any_apply, tg_any_read, tg_any_number, tg_any_plus, tg_any_times, tg_any_row, tg_any_write, tg_any_is, tg_any_not, tg_any_all, tg_any_if, tg_any_same, tg_any_equal, tg_any_most, tg_any_less, tg_if_unknown, tg_if_member, tg_if_apply, tg_if_read, tg_if_number, tg_if_plus, tg_if_times, tg_if_row, tg_if_write, tg_if_is, tg_if_not, tg_if_all, tg_if_any, tg_if_same, tg_if_equal, tg_if_most, tg_if_less, tg_same_unknown, tg_same_member, tg_same_apply, tg_same_read, tg_same_number, tg_same_plus, tg_same_times, tg_same_row, tg_same_write, tg_same_is, tg_same_not, tg_same_all, tg_same_any, tg_same_if, tg_same_equal, tg_same_most, tg_same_less, tg_equal_unknown, tg_equal_member, tg_equal_apply, tg_equal_read, tg_equal_number, tg_equal_plus, tg_equal_times, tg_equal_row, tg_equal_write, tg_equal_is, tg_equal_not, tg_equal_all, tg_equal_any, tg_equal_if, tg_equal_same, tg_equal_most, tg_equal_less, tg_most_unknown, tg_most_member, tg_most_apply, tg_most_read, tg_most_number, tg_most_plus, tg_most_times, tg_most_row, tg_most_write, tg_most_is, tg_most_not, tg_most_all, tg_most_any, tg_most_if, tg_most_same, tg_most_equal, tg_most_less, tg_less_unknown, tg_less_member, tg_less_apply, tg_less_read, tg_less_number, tg_less_plus, tg_less_times, tg_less_row, tg_less_write, tg_less_is, tg_less_not, tg_less_all, tg_less_any, tg_less_if, tg_less_same, tg_less_equal, tg_less_most, tg_minus_unknown, tg_minus_member, tg_minus_apply, tg_minus_read, tg_minus_number, tg_minus_plus, tg_minus_times, tg_minus_row, tg_minus_write, tg_minus_is, tg_minus_not, tg_minus_all, tg_minus_any, tg_minus_if, tg_minus_same, tg_minus_equal, tg_minus_most, tg_minus_less, tg_rows_unknown, tg_rows_member, tg_rows_apply, tg_rows_read, tg_rows_number, tg_rows_plus, tg_rows_times, tg_rows_row, tg_rows_write, tg_rows_is, tg_rows_not, tg_rows_all, tg_rows_any, tg_rows_if, tg_rows_same, tg_rows_equal, tg_rows_most, tg_rows_less]
    | num a b =>
      rw [evT] at lv
      simp! only [Trm.d, get_app, get_app0, set_app, set_app0, mutOf_r, listOf_r, dictOf_r, idx_r, idx_l, idx_f, idx_tup, mth_append, mth_pop, rcv_append, rcv_pop, rcv_extend, atI_0, atI_1, atI_2, atI_3, atI_4, add_rl, add_lr, add_ll, List.getElem?_cons_zero, List.getElem?_cons_succ, lv, evT, tg_unknown_member, tg_unknown_apply, tg_unknown_read, tg_unknown_number, tg_unknown_plus, tg_unknown_times, tg_unknown_row, tg_unknown_write, tg_unknown_is, tg_unknown_not, tg_unknown_all, tg_unknown_any, tg_unknown_if, tg_unknown_same, tg_unknown_equal, tg_unknown_most, tg_unknown_less, tg_member_unknown, tg_member_apply, tg_member_read, tg_member_number, tg_member_plus, tg_member_times, tg_member_row, tg_member_write, tg_member_is, tg_member_not, tg_member_all, tg_member_any, tg_member_if, tg_member_same, tg_member_equal, tg_member_most, tg_member_less, tg_apply_unknown, tg_apply_member, tg_apply_read, tg_apply_number, tg_apply_plus, tg_apply_times, tg_apply_row, tg_apply_write, tg_apply_is, tg_apply_not, tg_apply_all, tg_apply_any, tg_apply_if, tg_apply_same, tg_apply_equal, tg_apply_most, tg_apply_less, tg_read_unknown, tg_read_member, tg_read_apply, tg_read_number, tg_read_plus, tg_read_times, tg_read_row, tg_read_write, tg_read_is, tg_read_not, tg_read_all, tg_read_any, tg_read_if, tg_read_same, tg_read_equal, tg_read_most, tg_read_less, tg_number_unknown, tg_number_member, tg_number_apply, tg_number_read, tg_number_plus, tg_number_times, tg_number_row, tg_number_write, tg_number_is, tg_number_not, tg_number_all, tg_number_any, tg_number_if, tg_number_same, tg_number_equal, tg_number_most, tg_number_less, tg_plus_unknown, tg_plus_member, tg_plus_apply, tg_plus_read, tg_plus_number, tg_plus_times, tg_plus_row, tg_plus_write, tg_plus_is, tg_plus_not, tg_plus_all, tg_plus_any, tg_plus_if, tg_plus_same, tg_plus_equal, tg_plus_most, tg_plus_less, tg_times_unknown, tg_times_member, tg_times_apply, tg_times_read, tg_times_number, tg_times_plus, tg_times_row, tg_times_write, tg_times_is, tg_times_not, tg_times_all, tg_times_any, tg_times_if, tg_times_same, tg_times_equal, tg_times_most, tg_times_less, tg_row_unknown, tg_row_member, tg_row_apply, tg_row_read, tg_row_number, tg_row_plus, tg_row_times, tg_row_write, tg_row_is, tg_row_not, tg_row_all, tg_row_any, tg_row_if, tg_row_same, tg_row_equal, tg_row_most, tg_row_less, tg_write_unknown, tg_write_member, tg_write_apply, tg_write_read, tg_write_number, tg_write_plus, tg_write_times, tg_write_row, tg_write_is, tg_write_not, tg_write_all, tg_write_any, tg_write_if, tg_write_same, tg_write_equal, tg_write_most, tg_write_less, tg_is_unknown, tg_is_member, tg_is_apply, tg_is_read, tg_is_number, tg_is_plus, tg_is_times, tg_is_row, tg_is_write, tg_is_not, tg_is_all, tg_is_any, tg_is_if, tg_is_same, tg_is_equal, tg_is_most, tg_is_less, tg_not_unknown, tg_not_member, tg_not_apply, tg_not_read, tg_not_number, tg_not_plus, tg_not_times, tg_not_row, tg_not_write, tg_not_is, tg_not_all, tg_not_any, tg_not_if, tg_not_same, tg_not_equal, tg_not_most, tg_not_less, tg_all_unknown, tg_all_member, tg_all_apply, tg_all_read, tg_all_number, tg_all_plus, tg_all_times, tg_all_row, tg_all_write, tg_all_is, tg_all_not, tg_all_any, tg_all_if, tg_all_same, tg_all_equal, tg_all_most, tg_all_less, tg_any_unknown, tg_any_member, tg_any_apply, tg_any_read, tg_any_number, tg_any_plus, tg_any_times, tg_any_row, tg_any_write, tg_any_is, tg_any_not, tg_any_all, tg_any_if, tg_any_same, tg_any_equal, tg_any_most, tg_any_less, tg_if_unknown, tg_if_member, tg_if_apply, tg_if_read, tg_if_number, tg_if_plus, tg_if_times, tg_if_row, tg_if_write, tg_if_is, tg_if_not, tg_if_all, tg_if_any, tg_if_same, tg_if_equal, tg_if_most, tg_if_less, tg_same_unknown, tg_same_member, tg_same_apply, tg_same_read, tg_same_number, tg_same_plus, tg_same_times, tg_same_row, tg_same_write, tg_same_is, tg_same_not, tg_same_all, tg_same_any, tg_same_if, tg_same_equal, tg_same_most, tg_same_less, tg_equal_unknown, tg_equal_member, tg_equal_apply, tg_equal_read, tg_equal_number, tg_equal_plus, tg_equal_times, tg_equal_row, tg_equal_write, tg_equal_is, tg_equal_not, tg_equal_all, tg_equal_any, tg_equal_if, tg_equal_same, tg_equal_most, tg_equal_less, tg_most_unknown, tg_most_member, tg_most_apply, tg_most_read, tg_most_number, tg_most_plus, tg_most_times, tg_most_row, tg_most_write, tg_most_is, tg_most_not, tg_most_all, tg_most_any, tg_most_if, tg_most_same, tg_most_equal, tg_most_less, tg_less_unknown, tg_less_member, tg_less_apply, tg_less_read, tg_less_number, tg_less_plus, tg_less_times, tg_less_row, tg_less_write, tg_less_is, tg_less_not, tg_less_all, tg_less_any, tg_less_if, tg_less_same, tg_less_equal, tg_less_most, tg_minus_unknown, tg_minus_member, tg_minus_apply, tg_minus_read, tg_minus_number, tg_minus_plus, tg_minus_times, tg_minus_row, tg_minus_write, tg_minus_is, tg_minus_not, tg_minus_all, tg_minus_any, tg_minus_if, tg_minus_same, tg_minus_equal, tg_minus_most, tg_minus_less, tg_rows_unknown, tg_rows_member, tg_rows_apply, tg_rows_read, tg_rows_number, tg_rows_plus, tg_rows_times, tg_rows_row, tg_rows_write, tg_rows_is, tg_rows_not, tg_rows_all, tg_rows_any, tg_rows_if, tg_rows_same, tg_rows_equal, tg_rows_most, tg_rows_less]
    | plus ts =>
      rw [okT] at ht
      obtain ⟨rfl, h1, h2, k', rfl, h3⟩ := ht
      have sv := c_sum_value (n := m + 1) e (ih k' (by omega) (by omega)) h3 h2 (by omega) (by omega)
      rw [evT] at lv
      simp! only [Trm.d, get_app, get_app0, set_app, set_app0, mutOf_r, listOf_r, dictOf_r, idx_r, idx_l, idx_f, idx_tup, mth_append, mth_pop, rcv_append, rcv_pop, rcv_extend, atI_0, atI_1, atI_2, atI_3, atI_4, add_rl, add_lr, add_ll, List.getElem?_cons_zero, List.getElem?_cons_succ, sv, lv, evT, tg_unknown_member, tg_unknown_apply, tg_unknown_read, tg_unknown_number, tg_unknown_plus, tg_unknown_times, tg_unknown_row, tg_unknown_write, tg_unknown_is, tg_unknown_not, tg_unknown_all, tg_unknown_any, tg_unknown_if, tg_unknown_same, tg_unknown_equal, tg_unknown_most, tg_unknown_less, tg_member_unknown, tg_member_apply, tg_member_read, tg_member_number, tg_member_plus, tg_member_times, tg_member_row, tg_member_write, tg_member_is, tg_member_not, tg_member_all, tg_member_any, tg_member_if, tg_member_same, tg_member_equal, tg_member_most, tg_member_less, tg_apply_unknown, tg_apply_member, tg_apply_read, tg_apply_number, tg_apply_plus, tg_apply_times, tg_apply_row, tg_apply_write, tg_apply_is, tg_apply_not, tg_apply_all, tg_apply_any, tg_apply_if, tg_apply_same, tg_apply_equal, tg_apply_most, tg_apply_less, tg_read_unknown, tg_read_member, tg_read_apply, tg_read_number, tg_read_plus, tg_read_times, tg_read_row, tg_read_write, tg_read_is, tg_read_not, tg_read_all, tg_read_any, tg_read_if, tg_read_same, tg_read_equal, tg_read_most, tg_read_less, tg_number_unknown, tg_number_member, tg_number_apply, tg_number_read, tg_number_plus, tg_number_times, tg_number_row, tg_number_write, tg_number_is, tg_number_not, tg_number_all, tg_number_any, tg_number_if, tg_number_same, tg_number_equal, tg_number_most, tg_number_less, tg_plus_unknown, tg_plus_member, tg_plus_apply, tg_plus_read, tg_plus_number, tg_plus_times, tg_plus_row, tg_plus_write, tg_plus_is, tg_plus_not, tg_plus_all, tg_plus_any, tg_plus_if, tg_plus_same, tg_plus_equal, tg_plus_most, tg_plus_less, tg_times_unknown, tg_times_member, tg_times_apply, tg_times_read, tg_times_number, tg_times_plus, tg_times_row, tg_times_write, tg_times_is, tg_times_not, tg_times_all, tg_times_any, tg_times_if, tg_times_same, tg_times_equal, tg_times_most, tg_times_less, tg_row_unknown, tg_row_member, tg_row_apply, tg_row_read, tg_row_number, tg_row_plus, tg_row_times, tg_row_write, tg_row_is, tg_row_not, tg_row_all, tg_row_any, tg_row_if, tg_row_same, tg_row_equal, tg_row_most, tg_row_less, tg_write_unknown, tg_write_member, tg_write_apply, tg_write_read, tg_write_number, tg_write_plus, tg_write_times, tg_write_row, tg_write_is, tg_write_not, tg_write_all, tg_write_any, tg_write_if, tg_write_same, tg_write_equal, tg_write_most, tg_write_less, tg_is_unknown, tg_is_member, tg_is_apply, tg_is_read, tg_is_number, tg_is_plus, tg_is_times, tg_is_row, tg_is_write, tg_is_not, tg_is_all, tg_is_any, tg_is_if, tg_is_same, tg_is_equal, tg_is_most, tg_is_less, tg_not_unknown, tg_not_member, tg_not_apply, tg_not_read, tg_not_number, tg_not_plus, tg_not_times, tg_not_row, tg_not_write, tg_not_is, tg_not_all, tg_not_any, tg_not_if, tg_not_same, tg_not_equal, tg_not_most, tg_not_less, tg_all_unknown, tg_all_member, tg_all_apply, tg_all_read, tg_all_number, tg_all_plus, tg_all_times, tg_all_row, tg_all_write, tg_all_is, tg_all_not, tg_all_any, tg_all_if, tg_all_same, tg_all_equal, tg_all_most, tg_all_less, tg_any_unknown, tg_any_member, tg_any_apply, tg_any_read, tg_any_number, tg_any_plus, tg_any_times, tg_any_row, tg_any_write, tg_any_is, tg_any_not, tg_any_all, tg_any_if, tg_any_same, tg_any_equal, tg_any_most, tg_any_less, tg_if_unknown, tg_if_member, tg_if_apply, tg_if_read, tg_if_number, tg_if_plus, tg_if_times, tg_if_row, tg_if_write, tg_if_is, tg_if_not, tg_if_all, tg_if_any, tg_if_same, tg_if_equal, tg_if_most, tg_if_less, tg_same_unknown, tg_same_member, tg_same_apply, tg_same_read, tg_same_number, tg_same_plus, tg_same_times, tg_same_row, tg_same_write, tg_same_is, tg_same_not, tg_same_all, tg_same_any, tg_same_if, tg_same_equal, tg_same_most, tg_same_less, tg_equal_unknown, tg_equal_member, tg_equal_apply, tg_equal_read, tg_equal_number, tg_equal_plus, tg_equal_times, tg_equal_row, tg_equal_write, tg_equal_is, tg_equal_not, tg_equal_all, tg_equal_any, tg_equal_if, tg_equal_same, tg_equal_most, tg_equal_less, tg_most_unknown, tg_most_member, tg_most_apply, tg_most_read, tg_most_number, tg_most_plus, tg_most_times, tg_most_row, tg_most_write, tg_most_is, tg_most_not, tg_most_all, tg_most_any, tg_most_if, tg_most_same, tg_most_equal, tg_most_less, tg_less_unknown, tg_less_member, tg_less_apply, tg_less_read, tg_less_number, tg_less_plus, tg_less_times, tg_less_row, tg_less_write, tg_less_is, tg_less_not, tg_less_all, tg_less_any, tg_less_if, tg_less_same, tg_less_equal, tg_less_most, tg_minus_unknown, tg_minus_member, tg_minus_apply, tg_minus_read, tg_minus_number, tg_minus_plus, tg_minus_times, tg_minus_row, tg_minus_write, tg_minus_is, tg_minus_not, tg_minus_all, tg_minus_any, tg_minus_if, tg_minus_same, tg_minus_equal, tg_minus_most, tg_minus_less, tg_rows_unknown, tg_rows_member, tg_rows_apply, tg_rows_read, tg_rows_number, tg_rows_plus, tg_rows_times, tg_rows_row, tg_rows_write, tg_rows_is, tg_rows_not, tg_rows_all, tg_rows_any, tg_rows_if, tg_rows_same, tg_rows_equal, tg_rows_most, tg_rows_less]
    | times c t =>
      rw [okT] at ht
      obtain ⟨rfl, h1, h2, k', rfl, h3⟩ := ht
      have v1 := ih k' (by omega) (by omega) t .num (m + 2) h3 (by omega)
      obtain ⟨a, b, ev, b1, _, a2, b2⟩ := evT_ok e.ty t .num k' h3
      rw [ev] at v1
      have nb := N3 (k := k') (by omega)
      have nl := N_le k'
      have m1 : ∀ {S}, binE S .mul (.int c) (.int a) = some (.int (c * a)) := mul_bd (p := 5) (show c.natAbs < 2 ^ 5 by omega) a2 (by omega) (by omega) (by omega)
      have rd := c_reduced (n := m) (a := c * a) (b := b) b1 (by have := log_bd b2 (by omega); omega) e.cl
      rw [evT, ev] at lv
      rw [evT, ev]
      simp only [nP] at lv ⊢
      simp! only [Trm.d, get_app, get_app0, set_app, set_app0, mutOf_r, listOf_r, dictOf_r, idx_r, idx_l, idx_f, idx_tup, mth_append, mth_pop, rcv_append, rcv_pop, rcv_extend, atI_0, atI_1, atI_2, atI_3, atI_4, add_rl, add_lr, add_ll, List.getElem?_cons_zero, List.getElem?_cons_succ, v1, m1, rd, lv, tg_unknown_member, tg_unknown_apply, tg_unknown_read, tg_unknown_number, tg_unknown_plus, tg_unknown_times, tg_unknown_row, tg_unknown_write, tg_unknown_is, tg_unknown_not, tg_unknown_all, tg_unknown_any, tg_unknown_if, tg_unknown_same, tg_unknown_equal, tg_unknown_most, tg_unknown_less, tg_member_unknown, tg_member_apply, tg_member_read, tg_member_number, tg_member_plus, tg_member_times, tg_member_row, tg_member_write, tg_member_is, tg_member_not, tg_member_all, tg_member_any, tg_member_if, tg_member_same, tg_member_equal, tg_member_most, tg_member_less, tg_apply_unknown, tg_apply_member, tg_apply_read, tg_apply_number, tg_apply_plus, tg_apply_times, tg_apply_row, tg_apply_write, tg_apply_is, tg_apply_not, tg_apply_all, tg_apply_any, tg_apply_if, tg_apply_same, tg_apply_equal, tg_apply_most, tg_apply_less, tg_read_unknown, tg_read_member, tg_read_apply, tg_read_number, tg_read_plus, tg_read_times, tg_read_row, tg_read_write, tg_read_is, tg_read_not, tg_read_all, tg_read_any, tg_read_if, tg_read_same, tg_read_equal, tg_read_most, tg_read_less, tg_number_unknown, tg_number_member, tg_number_apply, tg_number_read, tg_number_plus, tg_number_times, tg_number_row, tg_number_write, tg_number_is, tg_number_not, tg_number_all, tg_number_any, tg_number_if, tg_number_same, tg_number_equal, tg_number_most, tg_number_less, tg_plus_unknown, tg_plus_member, tg_plus_apply, tg_plus_read, tg_plus_number, tg_plus_times, tg_plus_row, tg_plus_write, tg_plus_is, tg_plus_not, tg_plus_all, tg_plus_any, tg_plus_if, tg_plus_same, tg_plus_equal, tg_plus_most, tg_plus_less, tg_times_unknown, tg_times_member, tg_times_apply, tg_times_read, tg_times_number, tg_times_plus, tg_times_row, tg_times_write, tg_times_is, tg_times_not, tg_times_all, tg_times_any, tg_times_if, tg_times_same, tg_times_equal, tg_times_most, tg_times_less, tg_row_unknown, tg_row_member, tg_row_apply, tg_row_read, tg_row_number, tg_row_plus, tg_row_times, tg_row_write, tg_row_is, tg_row_not, tg_row_all, tg_row_any, tg_row_if, tg_row_same, tg_row_equal, tg_row_most, tg_row_less, tg_write_unknown, tg_write_member, tg_write_apply, tg_write_read, tg_write_number, tg_write_plus, tg_write_times, tg_write_row, tg_write_is, tg_write_not, tg_write_all, tg_write_any, tg_write_if, tg_write_same, tg_write_equal, tg_write_most, tg_write_less, tg_is_unknown, tg_is_member, tg_is_apply, tg_is_read, tg_is_number, tg_is_plus, tg_is_times, tg_is_row, tg_is_write, tg_is_not, tg_is_all, tg_is_any, tg_is_if, tg_is_same, tg_is_equal, tg_is_most, tg_is_less, tg_not_unknown, tg_not_member, tg_not_apply, tg_not_read, tg_not_number, tg_not_plus, tg_not_times, tg_not_row, tg_not_write, tg_not_is, tg_not_all, tg_not_any, tg_not_if, tg_not_same, tg_not_equal, tg_not_most, tg_not_less, tg_all_unknown, tg_all_member, tg_all_apply, tg_all_read, tg_all_number, tg_all_plus, tg_all_times, tg_all_row, tg_all_write, tg_all_is, tg_all_not, tg_all_any, tg_all_if, tg_all_same, tg_all_equal, tg_all_most, tg_all_less, tg_any_unknown, tg_any_member, tg_any_apply, tg_any_read, tg_any_number, tg_any_plus, tg_any_times, tg_any_row, tg_any_write, tg_any_is, tg_any_not, tg_any_all, tg_any_if, tg_any_same, tg_any_equal, tg_any_most, tg_any_less, tg_if_unknown, tg_if_member, tg_if_apply, tg_if_read, tg_if_number, tg_if_plus, tg_if_times, tg_if_row, tg_if_write, tg_if_is, tg_if_not, tg_if_all, tg_if_any, tg_if_same, tg_if_equal, tg_if_most, tg_if_less, tg_same_unknown, tg_same_member, tg_same_apply, tg_same_read, tg_same_number, tg_same_plus, tg_same_times, tg_same_row, tg_same_write, tg_same_is, tg_same_not, tg_same_all, tg_same_any, tg_same_if, tg_same_equal, tg_same_most, tg_same_less, tg_equal_unknown, tg_equal_member, tg_equal_apply, tg_equal_read, tg_equal_number, tg_equal_plus, tg_equal_times, tg_equal_row, tg_equal_write, tg_equal_is, tg_equal_not, tg_equal_all, tg_equal_any, tg_equal_if, tg_equal_same, tg_equal_most, tg_equal_less, tg_most_unknown, tg_most_member, tg_most_apply, tg_most_read, tg_most_number, tg_most_plus, tg_most_times, tg_most_row, tg_most_write, tg_most_is, tg_most_not, tg_most_all, tg_most_any, tg_most_if, tg_most_same, tg_most_equal, tg_most_less, tg_less_unknown, tg_less_member, tg_less_apply, tg_less_read, tg_less_number, tg_less_plus, tg_less_times, tg_less_row, tg_less_write, tg_less_is, tg_less_not, tg_less_all, tg_less_any, tg_less_if, tg_less_same, tg_less_equal, tg_less_most, tg_minus_unknown, tg_minus_member, tg_minus_apply, tg_minus_read, tg_minus_number, tg_minus_plus, tg_minus_times, tg_minus_row, tg_minus_write, tg_minus_is, tg_minus_not, tg_minus_all, tg_minus_any, tg_minus_if, tg_minus_same, tg_minus_equal, tg_minus_most, tg_minus_less, tg_rows_unknown, tg_rows_member, tg_rows_apply, tg_rows_read, tg_rows_number, tg_rows_plus, tg_rows_times, tg_rows_row, tg_rows_write, tg_rows_is, tg_rows_not, tg_rows_all, tg_rows_any, tg_rows_if, tg_rows_same, tg_rows_equal, tg_rows_most, tg_rows_less]
    | app nm ts =>
      rw [okT] at ht
      obtain ⟨ks, kr, ss, k', hm, hs, hss, rfl, h3⟩ := ht
      obtain ⟨xs, c, e1, e2, e3⟩ := en_fun e hm
      have hvs := evTs_vs e h3
      have lu := c_looked_up (n := m + 1) (vs := evTs lk ts) e.cl e3 hvs
      have pv : pures (evTs lk ts) = true := pures_of fun v m => (hvs v m).1
      rw [evT, e1] at lv
      rw [evT, e1]
      simp! only [Trm.d, get_app, get_app0, set_app, set_app0, mutOf_r, listOf_r, dictOf_r, idx_r, idx_l, idx_f, idx_tup, mth_append, mth_pop, rcv_append, rcv_pop, rcv_extend, atI_0, atI_1, atI_2, atI_3, atI_4, add_rl, add_lr, add_ll, List.getElem?_cons_zero, List.getElem?_cons_succ, tg_unknown_member, tg_unknown_apply, tg_unknown_read, tg_unknown_number, tg_unknown_plus, tg_unknown_times, tg_unknown_row, tg_unknown_write, tg_unknown_is, tg_unknown_not, tg_unknown_all, tg_unknown_any, tg_unknown_if, tg_unknown_same, tg_unknown_equal, tg_unknown_most, tg_unknown_less, tg_member_unknown, tg_member_apply, tg_member_read, tg_member_number, tg_member_plus, tg_member_times, tg_member_row, tg_member_write, tg_member_is, tg_member_not, tg_member_all, tg_member_any, tg_member_if, tg_member_same, tg_member_equal, tg_member_most, tg_member_less, tg_apply_unknown, tg_apply_member, tg_apply_read, tg_apply_number, tg_apply_plus, tg_apply_times, tg_apply_row, tg_apply_write, tg_apply_is, tg_apply_not, tg_apply_all, tg_apply_any, tg_apply_if, tg_apply_same, tg_apply_equal, tg_apply_most, tg_apply_less, tg_read_unknown, tg_read_member, tg_read_apply, tg_read_number, tg_read_plus, tg_read_times, tg_read_row, tg_read_write, tg_read_is, tg_read_not, tg_read_all, tg_read_any, tg_read_if, tg_read_same, tg_read_equal, tg_read_most, tg_read_less, tg_number_unknown, tg_number_member, tg_number_apply, tg_number_read, tg_number_plus, tg_number_times, tg_number_row, tg_number_write, tg_number_is, tg_number_not, tg_number_all, tg_number_any, tg_number_if, tg_number_same, tg_number_equal, tg_number_most, tg_number_less, tg_plus_unknown, tg_plus_member, tg_plus_apply, tg_plus_read, tg_plus_number, tg_plus_times, tg_plus_row, tg_plus_write, tg_plus_is, tg_plus_not, tg_plus_all, tg_plus_any, tg_plus_if, tg_plus_same, tg_plus_equal, tg_plus_most, tg_plus_less, tg_times_unknown, tg_times_member, tg_times_apply, tg_times_read, tg_times_number, tg_times_plus, tg_times_row, tg_times_write, tg_times_is, tg_times_not, tg_times_all, tg_times_any, tg_times_if, tg_times_same, tg_times_equal, tg_times_most, tg_times_less, tg_row_unknown, tg_row_member, tg_row_apply, tg_row_read, tg_row_number, tg_row_plus, tg_row_times, tg_row_write, tg_row_is, tg_row_not, tg_row_all, tg_row_any, tg_row_if, tg_row_same, tg_row_equal, tg_row_most, tg_row_less, tg_write_unknown, tg_write_member, tg_write_apply, tg_write_read, tg_write_number, tg_write_plus, tg_write_times, tg_write_row, tg_write_is, tg_write_not, tg_write_all, tg_write_any, tg_write_if, tg_write_same, tg_write_equal, tg_write_most, tg_write_less, tg_is_unknown, tg_is_member, tg_is_apply, tg_is_read, tg_is_number, tg_is_plus, tg_is_times, tg_is_row, tg_is_write, tg_is_not, tg_is_all, tg_is_any, tg_is_if, tg_is_same, tg_is_equal, tg_is_most, tg_is_less, tg_not_unknown, tg_not_member, tg_not_apply, tg_not_read, tg_not_number, tg_not_plus, tg_not_times, tg_not_row, tg_not_write, tg_not_is, tg_not_all, tg_not_any, tg_not_if, tg_not_same, tg_not_equal, tg_not_most, tg_not_less, tg_all_unknown, tg_all_member, tg_all_apply, tg_all_read, tg_all_number, tg_all_plus, tg_all_times, tg_all_row, tg_all_write, tg_all_is, tg_all_not, tg_all_any, tg_all_if, tg_all_same, tg_all_equal, tg_all_most, tg_all_less, tg_any_unknown, tg_any_member, tg_any_apply, tg_any_read, tg_any_number, tg_any_plus, tg_any_times, tg_any_row, tg_any_write, tg_any_is, tg_any_not, tg_any_all, tg_any_if, tg_any_same, tg_any_equal, tg_any_most, tg_any_less, tg_if_unknown, tg_if_member, tg_if_apply, tg_if_read, tg_if_number, tg_if_plus, tg_if_times, tg_if_row, tg_if_write, tg_if_is, tg_if_not, tg_if_all, tg_if_any, tg_if_same, tg_if_equal, tg_if_most, tg_if_less, tg_same_unknown, tg_same_member, tg_same_apply, tg_same_read, tg_same_number, tg_same_plus, tg_same_times, tg_same_row, tg_same_write, tg_same_is, tg_same_not, tg_same_all, tg_same_any, tg_same_if, tg_same_equal, tg_same_most, tg_same_less, tg_equal_unknown, tg_equal_member, tg_equal_apply, tg_equal_read, tg_equal_number, tg_equal_plus, tg_equal_times, tg_equal_row, tg_equal_write, tg_equal_is, tg_equal_not, tg_equal_all, tg_equal_any, tg_equal_if, tg_equal_same, tg_equal_most, tg_equal_less, tg_most_unknown, tg_most_member, tg_most_apply, tg_most_read, tg_most_number, tg_most_plus, tg_most_times, tg_most_row, tg_most_write, tg_most_is, tg_most_not, tg_most_all, tg_most_any, tg_most_if, tg_most_same, tg_most_equal, tg_most_less, tg_less_unknown, tg_less_member, tg_less_apply, tg_less_read, tg_less_number, tg_less_plus, tg_less_times, tg_less_row, tg_less_write, tg_less_is, tg_less_not, tg_less_all, tg_less_any, tg_less_if, tg_less_same, tg_less_equal, tg_less_most, tg_minus_unknown, tg_minus_member, tg_minus_apply, tg_minus_read, tg_minus_number, tg_minus_plus, tg_minus_times, tg_minus_row, tg_minus_write, tg_minus_is, tg_minus_not, tg_minus_all, tg_minus_any, tg_minus_if, tg_minus_same, tg_minus_equal, tg_minus_most, tg_minus_less, tg_rows_unknown, tg_rows_member, tg_rows_apply, tg_rows_read, tg_rows_number, tg_rows_plus, tg_rows_times, tg_rows_row, tg_rows_write, tg_rows_is, tg_rows_not, tg_rows_all, tg_rows_any, tg_rows_if, tg_rows_same, tg_rows_equal, tg_rows_most, tg_rows_less]
      refine wp_comp (fun j vs Z' => vs = (evTs lk ts).take j ∧ Z = Z') ?_
      simp! only [get_app, get_app0, set_app, set_app0, mutOf_r, listOf_r, dictOf_r, idx_r, idx_l, idx_f, idx_tup, mth_append, mth_pop, rcv_append, rcv_pop, rcv_extend, atI_0, atI_1, atI_2, atI_3, atI_4, add_rl, add_lr, add_ll, List.getElem?_cons_zero, List.getElem?_cons_succ]
      refine ⟨_, none, items_tup, pures_settled _ (trms_pure ts), ⟨rfl, rfl⟩, fun _ _ _ _ => trivial, ?_, ?_⟩
      · rintro j y vs Z' hd ⟨rfl, rfl⟩
        obtain ⟨t, ht, rfl⟩ := ds_get hd
        obtain ⟨s', _, hk1⟩ := okTs_get h3 ht
        have v1 := ih k' (by omega) (by omega) t s' (m + 2) hk1 (by omega)
        simp! only [v1]
        exact (evTs_take ht).symm
      · rintro vs Z' ⟨rfl, rfl⟩
        have hlen : (Trm.ds ts).length = (evTs lk ts).length := by rw [ds_map, (evTs_ok e.ty ts ss k' h3).1]; simp
        rw [hlen, List.take_length]
        simp! only [settles_pure _ _ pv, get_app, get_app0, set_app, set_app0, mutOf_r, listOf_r, dictOf_r, idx_r, idx_l, idx_f, idx_tup, mth_append, mth_pop, rcv_append, rcv_pop, rcv_extend, atI_0, atI_1, atI_2, atI_3, atI_4, add_rl, add_lr, add_ll, List.getElem?_cons_zero, List.getElem?_cons_succ, e2, lu, lv]
    | read r t =>
      rw [okT] at ht
      obtain ⟨nm, a, b, s1, k', hm, ha, hb, rfl, hr, h3⟩ := ht
      have v1 := ih k' (by omega) (by omega) t s1 (m + 2) h3 (by omega)
      have hp := (evT_ok e.ty t s1 k' h3).pure
      have wa := c_word_at (n := m + 1) e (ih k' (by omega) (by omega)) hr hm hb hp (by omega)
      rw [evT] at lv
      simp! only [Trm.d, get_app, get_app0, set_app, set_app0, mutOf_r, listOf_r, dictOf_r, idx_r, idx_l, idx_f, idx_tup, mth_append, mth_pop, rcv_append, rcv_pop, rcv_extend, atI_0, atI_1, atI_2, atI_3, atI_4, add_rl, add_lr, add_ll, List.getElem?_cons_zero, List.getElem?_cons_succ, v1, wa, lv, evT, tg_unknown_member, tg_unknown_apply, tg_unknown_read, tg_unknown_number, tg_unknown_plus, tg_unknown_times, tg_unknown_row, tg_unknown_write, tg_unknown_is, tg_unknown_not, tg_unknown_all, tg_unknown_any, tg_unknown_if, tg_unknown_same, tg_unknown_equal, tg_unknown_most, tg_unknown_less, tg_member_unknown, tg_member_apply, tg_member_read, tg_member_number, tg_member_plus, tg_member_times, tg_member_row, tg_member_write, tg_member_is, tg_member_not, tg_member_all, tg_member_any, tg_member_if, tg_member_same, tg_member_equal, tg_member_most, tg_member_less, tg_apply_unknown, tg_apply_member, tg_apply_read, tg_apply_number, tg_apply_plus, tg_apply_times, tg_apply_row, tg_apply_write, tg_apply_is, tg_apply_not, tg_apply_all, tg_apply_any, tg_apply_if, tg_apply_same, tg_apply_equal, tg_apply_most, tg_apply_less, tg_read_unknown, tg_read_member, tg_read_apply, tg_read_number, tg_read_plus, tg_read_times, tg_read_row, tg_read_write, tg_read_is, tg_read_not, tg_read_all, tg_read_any, tg_read_if, tg_read_same, tg_read_equal, tg_read_most, tg_read_less, tg_number_unknown, tg_number_member, tg_number_apply, tg_number_read, tg_number_plus, tg_number_times, tg_number_row, tg_number_write, tg_number_is, tg_number_not, tg_number_all, tg_number_any, tg_number_if, tg_number_same, tg_number_equal, tg_number_most, tg_number_less, tg_plus_unknown, tg_plus_member, tg_plus_apply, tg_plus_read, tg_plus_number, tg_plus_times, tg_plus_row, tg_plus_write, tg_plus_is, tg_plus_not, tg_plus_all, tg_plus_any, tg_plus_if, tg_plus_same, tg_plus_equal, tg_plus_most, tg_plus_less, tg_times_unknown, tg_times_member, tg_times_apply, tg_times_read, tg_times_number, tg_times_plus, tg_times_row, tg_times_write, tg_times_is, tg_times_not, tg_times_all, tg_times_any, tg_times_if, tg_times_same, tg_times_equal, tg_times_most, tg_times_less, tg_row_unknown, tg_row_member, tg_row_apply, tg_row_read, tg_row_number, tg_row_plus, tg_row_times, tg_row_write, tg_row_is, tg_row_not, tg_row_all, tg_row_any, tg_row_if, tg_row_same, tg_row_equal, tg_row_most, tg_row_less, tg_write_unknown, tg_write_member, tg_write_apply, tg_write_read, tg_write_number, tg_write_plus, tg_write_times, tg_write_row, tg_write_is, tg_write_not, tg_write_all, tg_write_any, tg_write_if, tg_write_same, tg_write_equal, tg_write_most, tg_write_less, tg_is_unknown, tg_is_member, tg_is_apply, tg_is_read, tg_is_number, tg_is_plus, tg_is_times, tg_is_row, tg_is_write, tg_is_not, tg_is_all, tg_is_any, tg_is_if, tg_is_same, tg_is_equal, tg_is_most, tg_is_less, tg_not_unknown, tg_not_member, tg_not_apply, tg_not_read, tg_not_number, tg_not_plus, tg_not_times, tg_not_row, tg_not_write, tg_not_is, tg_not_all, tg_not_any, tg_not_if, tg_not_same, tg_not_equal, tg_not_most, tg_not_less, tg_all_unknown, tg_all_member, tg_all_apply, tg_all_read, tg_all_number, tg_all_plus, tg_all_times, tg_all_row, tg_all_write, tg_all_is, tg_all_not, tg_all_any, tg_all_if, tg_all_same, tg_all_equal, tg_all_most, tg_all_less, tg_any_unknown, tg_any_member, tg_any_apply, tg_any_read, tg_any_number, tg_any_plus, tg_any_times, tg_any_row, tg_any_write, tg_any_is, tg_any_not, tg_any_all, tg_any_if, tg_any_same, tg_any_equal, tg_any_most, tg_any_less, tg_if_unknown, tg_if_member, tg_if_apply, tg_if_read, tg_if_number, tg_if_plus, tg_if_times, tg_if_row, tg_if_write, tg_if_is, tg_if_not, tg_if_all, tg_if_any, tg_if_same, tg_if_equal, tg_if_most, tg_if_less, tg_same_unknown, tg_same_member, tg_same_apply, tg_same_read, tg_same_number, tg_same_plus, tg_same_times, tg_same_row, tg_same_write, tg_same_is, tg_same_not, tg_same_all, tg_same_any, tg_same_if, tg_same_equal, tg_same_most, tg_same_less, tg_equal_unknown, tg_equal_member, tg_equal_apply, tg_equal_read, tg_equal_number, tg_equal_plus, tg_equal_times, tg_equal_row, tg_equal_write, tg_equal_is, tg_equal_not, tg_equal_all, tg_equal_any, tg_equal_if, tg_equal_same, tg_equal_most, tg_equal_less, tg_most_unknown, tg_most_member, tg_most_apply, tg_most_read, tg_most_number, tg_most_plus, tg_most_times, tg_most_row, tg_most_write, tg_most_is, tg_most_not, tg_most_all, tg_most_any, tg_most_if, tg_most_same, tg_most_equal, tg_most_less, tg_less_unknown, tg_less_member, tg_less_apply, tg_less_read, tg_less_number, tg_less_plus, tg_less_times, tg_less_row, tg_less_write, tg_less_is, tg_less_not, tg_less_all, tg_less_any, tg_less_if, tg_less_same, tg_less_equal, tg_less_most, tg_minus_unknown, tg_minus_member, tg_minus_apply, tg_minus_read, tg_minus_number, tg_minus_plus, tg_minus_times, tg_minus_row, tg_minus_write, tg_minus_is, tg_minus_not, tg_minus_all, tg_minus_any, tg_minus_if, tg_minus_same, tg_minus_equal, tg_minus_most, tg_minus_less, tg_rows_unknown, tg_rows_member, tg_rows_apply, tg_rows_read, tg_rows_number, tg_rows_plus, tg_rows_times, tg_rows_row, tg_rows_write, tg_rows_is, tg_rows_not, tg_rows_all, tg_rows_any, tg_rows_if, tg_rows_same, tg_rows_equal, tg_rows_most, tg_rows_less]
end
end Pg
end
section
set_option Elab.async false
set_option linter.all false
set_option maxRecDepth 100000
set_option maxHeartbeats 8000000
namespace Pg
open Ev
local macro_rules
  | `(tactic| simp! only [$as,*] $[$l]?) => `(tactic| simp only [wpB_cons, wpB_nil, wpS_set, wpS_setT, wpS_par, wpS_setI, wpS_expr, wpS_ret, wpS_ife, wpS_raise, wpS_try, wpS_aug, wpE_var, wpE_cst, wpE_tup, wpE_lst, wpE_dct0, wpE_bin, wpE_neg, wpE_not, wpE_and, wpE_or, wpE_cmp, wpE_cmp2, wpE_is, wpE_ife, wpE_idx, wpE_sl, wpE_call, wpE_blt, wpE_mth, wpE_isi, wpEs_nil, wpEs_cons, wpR_ok, wpR_ex, wpO_some, wpO_map, wpT_true, wpT_false, wpT_not, wpIfs_nil, wpIfs_one, getV_0, getV_s, List.set_cons_succ, List.set_cons_zero, g0_F, g0_isa, truth_non, truth_bl, truth_int, truth_tup, truth_lst, truth_fz, Option.map_some, Option.isSome_some, if_true, Bool.false_eq_true, if_false, Bool.not_true, Bool.not_false, isPart, setTg, setNames, bin_add, bin_sub, cmp_lt, cmp_gt, cmp_le, cmp_ge, cmp_eq, orD_some, cmp_ne, eq_int, eq_str, abs_int, tuple_seq, list_seq, seqOf_tup, seqOf_lst, seqOf_fz, seqOf_ref, int_bl, mdl, fdl, min2, max2, pu_non, pu_bl, pu_int, pu_str, pu_nil, pu_cons, pure_tup, Bool.and_self, Int.reduceLT, and_true, true_and, decide_true, decide_false, isC_b_non, isC_n_bl, isC_n_int, isC_b_int, isC_n_str, isC_b_str, isC_n_tup, isC_b_tup, isC_n_lst, isC_b_lst, isC_n_fz, isC_b_fz, isC_n_dct, isC_b_dct, isC_n_ref, isC_b_ref, isC_n_exc, isC_b_exc, isC_n_non, isC_true_true_true, isC_true_true_false, isC_true_false_true, isC_true_false_false, isC_false_true_true, isC_false_true_false, isC_false_false_true, isC_false_false_false, isTys_nil, isTys_c, isTy_exv, isTy_exc, isTy_non_int, isTy_non_str, isTy_non_tuple, isTy_non_list, isTy_non_dict, isTy_non_bool, isTy_bl_int, isTy_bl_str, isTy_bl_tuple, isTy_bl_list, isTy_bl_dict, isTy_bl_bool, isTy_int_int, isTy_int_str, isTy_int_tuple, isTy_int_list, isTy_int_dict, isTy_int_bool, isTy_str_int, isTy_str_str, isTy_str_tuple, isTy_str_list, isTy_str_dict, isTy_str_bool, isTy_tup_int, isTy_tup_str, isTy_tup_tuple, isTy_tup_list, isTy_tup_dict, isTy_tup_bool, isTy_lst_int, isTy_lst_str, isTy_lst_tuple, isTy_lst_list, isTy_lst_dict, isTy_lst_bool, isTy_fz_int, isTy_fz_str, isTy_fz_tuple, isTy_fz_list, isTy_fz_dict, isTy_fz_bool, isTy_dct_int, isTy_dct_str, isTy_dct_tuple, isTy_dct_list, isTy_dct_dict, isTy_dct_bool, Option.bind_some, settle_int, settle_str, settle_bl, settle_non, settle_ref, settle_fz, settle_exc, settle_tup, settle_lst, settle_dct, settles_nil, settles_cons, $as,*] $[$l]?)
variable {n : Nat} {S : Sto}
section
variable {rs : List Rw} {lk : PySem.Str → OV} {g : Nat} {Z : Sto}
def DU (rs : List Rw) (lk : PySem.Str → OV) (g : Nat) (Z : Sto) (k : Nat) : Prop := ∀ (t : Trm) (s : So) (n : Nat), okT rs t s k → 4 * k + 6 ≤ n → F n 21 [.ref g, t.d] Z = some (.ok (evT lk t) Z)
theorem c_lred {a b : Int} (hb : 1 ≤ b) (hl : b.natAbs.log2 < 9000) (hc : Cl S) : F (n + 2) 12 [.int a, .int b] S = some (.ok (redD a b) S) := c__law_reduced hb hl hc
theorem get_en {b : Nat} {ps : List Kd} {kd : Kd} {xs : List Int} {vs : List D} (hz : InAt Z b (OV.en ps kd xs).ins) (hv : ∀ v ∈ vs, v.pure = true ∧ v.depth ≤ 1) :
    recvOk .get (.ref b) Z = true ∧ mthE .get (.ref b) [.tup vs, kval kd (tk (entV ps kd xs).xs)] Z = some (getE (.en ps kd xs) (.tup vs), Z) :=
  get_ed (k := .tup vs) (w := kval kd (tk (entV ps kd xs).xs)) (entV_ok ps kd xs) (show Z[b]? = _ from hz 0 _ rfl) (tk_ok hv)
theorem c__law_word {k : Nat} {nm : PySem.Str} {a b : Kd} {s1 s2 : So} {p : D} (e : E6 rs lk g Z) (ih : DU rs lk g Z k) (hm : .row nm a b ∈ rs) (hb : b.so = some s2) (hp : p.pure = true ∧ p.depth ≤ 1) :
    ∀ (r : Rtm) (j n : Nat), okR rs r nm s1 s2 k j → 4 * k + 7 + j ≤ n → F n 22 [.ref g, r.d, p] Z = some (.ok (evR lk r p) Z)
  | .row nm', j, n, hr, hn => by
    obtain ⟨m, rfl⟩ : ∃ m, n = m + 1 := ⟨n - 1, by omega⟩
    refine wpR_is (e__law_word (by simp only [settle_int, settle_str, settle_bl, settle_non, settle_ref, settle_fz, settle_exc, settle_tup, settle_lst, settle_dct, settles_nil, settles_cons, rtm_settle, settle_pure _ _ hp.1]; rfl) ?_)
    have lv : leave Z.length (evR lk (.row nm') p) Z = some (.ok (evR lk (.row nm') p) Z) := lv0 e.cl (evR_ok e.ty _ nm s1 s2 k j p hr hm hb).pure.1
    rw [okR] at hr
    subst hr
    obtain ⟨xs, c, e1, e2, e3⟩ := en_row e hm
    rw [evR, e1] at lv
    rw [evR, e1]
    obtain ⟨g1, g2⟩ := get_en (vs := [p]) e3 (by simpa using hp)
    unfold b__law_word
    simp! only [Rtm.d, get_app, get_app0, set_app, set_app0, mutOf_r, listOf_r, dictOf_r, idx_r, idx_l, idx_f, idx_tup, mth_append, mth_pop, rcv_append, rcv_pop, rcv_extend, atI_0, atI_1, atI_2, atI_3, atI_4, add_rl, add_lr, add_ll, List.getElem?_cons_zero, List.getElem?_cons_succ, e2, OV.at, settle_pure _ _ (kval_pure b _), g1, g2, lv]
  | .write r x w, j, n, hr, hn => by
    obtain ⟨m, rfl⟩ : ∃ m, n = m + 1 := ⟨n - 1, by omega⟩
    refine wpR_is (e__law_word (by simp only [settle_int, settle_str, settle_bl, settle_non, settle_ref, settle_fz, settle_exc, settle_tup, settle_lst, settle_dct, settles_nil, settles_cons, rtm_settle, settle_pure _ _ hp.1]; rfl) ?_)
    have lv : leave Z.length (evR lk (.write r x w) p) Z = some (.ok (evR lk (.write r x w) p) Z) := lv0 e.cl (evR_ok e.ty _ nm s1 s2 k j p hr hm hb).pure.1
    rw [okR] at hr
    obtain ⟨j', rfl, h1, h2, h3⟩ := hr
    have v1 := ih x s1 m h2 (by omega)
    have v2 := ih w s2 m h3 (by omega)
    have v3 := c__law_word e ih hm hb hp r j' m h1 (by omega)
    have vx := evT_ok e.ty x s1 k h2
    have eq : ∀ {S}, eqE S (evT lk x) p = some ((evT lk x).eqv p) := eq_vs vx hp
    rw [evR] at lv
    rw [evR]
    unfold b__law_word
    have q1 : decide (("write" : PySem.Str) = "row") = false := by decide
    simp! only [Rtm.d, get_app, get_app0, set_app, set_app0, mutOf_r, listOf_r, dictOf_r, idx_r, idx_l, idx_f, idx_tup, mth_append, mth_pop, rcv_append, rcv_pop, rcv_extend, atI_0, atI_1, atI_2, atI_3, atI_4, add_rl, add_lr, add_ll, List.getElem?_cons_zero, List.getElem?_cons_succ, q1, v1, eq]
    refine wpT_i (fun h => ?_) fun h => ?_
    · rw [if_pos h] at lv ⊢
      simp! only [get_app, get_app0, set_app, set_app0, mutOf_r, listOf_r, dictOf_r, idx_r, idx_l, idx_f, idx_tup, mth_append, mth_pop, rcv_append, rcv_pop, rcv_extend, atI_0, atI_1, atI_2, atI_3, atI_4, add_rl, add_lr, add_ll, List.getElem?_cons_zero, List.getElem?_cons_succ, v2, lv]
    · rw [if_neg (by rw [h]; exact Bool.false_ne_true)] at lv ⊢
      simp! only [get_app, get_app0, set_app, set_app0, mutOf_r, listOf_r, dictOf_r, idx_r, idx_l, idx_f, idx_tup, mth_append, mth_pop, rcv_append, rcv_pop, rcv_extend, atI_0, atI_1, atI_2, atI_3, atI_4, add_rl, add_lr, add_ll, List.getElem?_cons_zero, List.getElem?_cons_succ, v3, lv]
theorem c__law_due (e : E6 rs lk g Z) : ∀ k, k ≤ 4 → DU rs lk g Z k := fun k => by
  induction k using Nat.strongRecOn with
  | ind k ih =>
    intro hk t s n ht hn
    obtain ⟨m, rfl⟩ : ∃ m, n = m + 3 := ⟨n - 3, by omega⟩
    refine wpR_is (e__law_due (by simp only [settle_int, settle_str, settle_bl, settle_non, settle_ref, settle_fz, settle_exc, settle_tup, settle_lst, settle_dct, settles_nil, settles_cons, trm_settle]; rfl) ?_)
    have lv : leave Z.length (evT lk t) Z = some (.ok (evT lk t) Z) := lv0 e.cl (evT_ok e.ty t s k ht).pure.1
    unfold b__law_due
    cases t with
    | unk nm =>
      rw [okT] at ht
      obtain ⟨kd, hm, hs⟩ := ht
      have ix := idx_pu e hm
      rw [evT] at lv
      simp! only [Trm.d, get_app, get_app0, set_app, set_app0, mutOf_r, listOf_r, dictOf_r, idx_r, idx_l, idx_f, idx_tup, mth_append, mth_pop, rcv_append, rcv_pop, rcv_extend, atI_0, atI_1, atI_2, atI_3, atI_4, add_rl, add_lr, add_ll, List.getElem?_cons_zero, List.getElem?_cons_succ, ix, lv, evT]
    | mem mm j =>
      rw [evT] at lv
      simp! only [Trm.d, get_app, get_app0, set_app, set_app0, mutOf_r, listOf_r, dictOf_r, idx_r, idx_l, idx_f, idx_tup, mth_append, mth_pop, rcv_append, rcv_pop, rcv_extend, atI_0, atI_1, atI_2, atI_3, atI_4, add_rl, add_lr, add_ll, List.getElem?_cons_zero, List.getElem?_cons_succ, lv, evT, tg_unknown_member, tg_unknown_apply, tg_unknown_read, tg_unknown_number, tg_unknown_plus, tg_unknown_times, tg_unknown_row, tg_unknown_write, tg_unknown_is, tg_unknown_not, tg_unknown_all, tg_unknown_any, tg_unknown_if, tg_unknown_same, tg_unknown_equal, tg_unknown_most, tg_unknown_less, tg_member_unknown, tg_member_apply, tg_member_read, tg_member_number, tg_member_plus, tg_member_times, tg_member_row, tg_member_write, tg_member_is, tg_member_not, tg_member_all, tg_member_any, tg_member_if, tg_member_same, tg_member_equal, tg_member_most, tg_member_less, tg_apply_unknown, tg_apply_member, tg_apply_read, tg_apply_number, tg_apply_plus, tg_apply_times, tg_apply_row, tg_apply_write, tg_apply_is, tg_apply_not, tg_apply_all, tg_apply_any, tg_apply_if, tg_apply_same, tg_apply_equal, tg_apply_most, tg_apply_less, tg_read_unknown, tg_read_member, tg_read_apply, tg_read_number, tg_read_plus, tg_read_times, tg_read_row, tg_read_write, tg_read_is, tg_read_not, tg_read_all, tg_read_any, tg_read_if, tg_read_same, tg_read_equal, tg_read_most, tg_read_less, tg_number_unknown, tg_number_member, tg_number_apply, tg_number_read, tg_number_plus, tg_number_times, tg_number_row, tg_number_write, tg_number_is, tg_number_not, tg_number_all, tg_number_any, tg_number_if, tg_number_same, tg_number_equal, tg_number_most, tg_number_less, tg_plus_unknown, tg_plus_member, tg_plus_apply, tg_plus_read, tg_plus_number, tg_plus_times, tg_plus_row, tg_plus_write, tg_plus_is, tg_plus_not, tg_plus_all, tg_plus_any, tg_plus_if, tg_plus_same, tg_plus_equal, tg_plus_most, tg_plus_less, tg_times_unknown, tg_times_member, tg_times_apply, tg_times_read, tg_times_number, tg_times_plus, tg_times_row, tg_times_write, tg_times_is, tg_times_not, tg_times_all, tg_times_any, tg_times_if, tg_times_same, tg_times_equal, tg_times_most, tg_times_less, tg_row_unknown, tg_row_member, tg_row_apply, tg_row_read, tg_row_number, tg_row_plus, tg_row_times, tg_row_write, tg_row_is, tg_row_not, tg_row_all, tg_row_any, tg_row_if, tg_row_same, tg_row_equal, tg_row_most, tg_row_less, tg_write_unknown, tg_write_member, tg_write_apply, tg_write_read, tg_write_number, tg_write_plus, tg_write_times, tg_write_row, tg_write_is, tg_write_not, tg_write_all, tg_write_any, tg_write_if, tg_write_same, tg_write_equal, tg_write_most, tg_write_less, tg_is_unknown, tg_is_member, tg_is_apply, tg_is_read, tg_is_number, tg_is_plus, tg_is_times, tg_is_row, tg_is_write, tg_is_not, tg_is_all, tg_is_any, tg_is_if, tg_is_same, tg_is_equal, tg_is_most, tg_is_less, tg_not_unknown, tg_not_member, tg_not_apply, tg_not_read, tg_not_number, tg_not_plus, tg_not_times, tg_not_row, tg_not_write, tg_not_is, tg_not_all, tg_not_any, tg_not_if, tg_not_same, tg_not_equal, tg_not_most, tg_not_less, tg_all_unknown, tg_all_member, tg_all_apply, tg_all_read, tg_all_number, tg_all_plus, tg_all_times, tg_all_row, tg_all_write, tg_all_is, tg_all_not, tg_all_any, tg_all_if, tg_all_same, tg_all_equal, tg_all_most, tg_all_less, tg_any_unknown, tg_any_member, tg_any_apply, tg_any_read, tg_any_number, tg_any_plus, tg_any_times, tg_any_row, tg_any_write, tg_any_is, tg_any_not, tg_any_all, tg_any_if, tg_any_same, tg_any_equal, tg_any_most, tg_any_less, tg_if_unknown, tg_if_member, tg_if_apply, tg_if_read, tg_if_number, tg_if_plus, tg_if_times, tg_if_row, tg_if_write, tg_if_is, tg_if_not, tg_if_all, tg_if_any, tg_if_same, tg_if_equal, tg_if_most, tg_if_less, tg_same_unknown, tg_same_member, tg_same_apply, tg_same_read, tg_same_number, tg_same_plus, tg_same_times, tg_same_row, tg_same_write, tg_same_is, tg_same_not, tg_same_all, tg_same_any, tg_same_if, tg_same_equal, tg_same_most, tg_same_less, tg_equal_unknown, tg_equal_member, tg_equal_apply, tg_equal_read, tg_equal_number, tg_equal_plus, tg_equal_times, tg_equal_row, tg_equal_write, tg_equal_is, tg_equal_not, tg_equal_all, tg_equal_any, tg_equal_if, tg_equal_same, tg_equal_most, tg_equal_less, tg_most_unknown, tg_most_member, tg_most_apply, tg_most_read, tg_most_number, tg_most_plus, tg_most_times, tg_most_row, tg_most_write, tg_most_is, tg_most_not, tg_most_all, tg_most_any, tg_most_if, tg_most_same, tg_most_equal, tg_most_less, tg_less_unknown, tg_less_member, tg_less_apply, tg_less_read, tg_less_number, tg_less_plus, tg_less_times, tg_less_row, tg_less_write, tg_less_is, tg_less_not, tg_less_all, tg_less_any, tg_less_if, tg_less_same, tg_less_equal, tg_less_most, tg_minus_unknown, tg_minus_member, tg_minus_apply, tg_minus_read, tg_minus_number, tg_minus_plus, tg_minus_times, tg_minus_row, tg_minus_write, tg_minus_is, tg_minus_not, tg_minus_all, tg_minus_any, tg_minus_if, tg_minus_same, tg_minus_equal, tg_minus_most, tg_minus_less, tg_rows_unknown, tg_rows_member, tg_rows_apply, tg_rows_read, tg_rows_number, tg_rows_plus, tg_rows_times, tg_rows_row, tg_rows_write, tg_rows_is, tg_rows_not, tg_rows_all, tg_rows_any, tg_rows_if, tg_rows_same, tg_rows_equal, tg_rows_most, tg_rows_less]
    | num a b =>
      rw [evT] at lv
      simp! only [Trm.d, get_app, get_app0, set_app, set_app0, mutOf_r, listOf_r, dictOf_r, idx_r, idx_l, idx_f, idx_tup, mth_append, mth_pop, rcv_append, rcv_pop, rcv_extend, atI_0, atI_1, atI_2, atI_3, atI_4, add_rl, add_lr, add_ll, List.getElem?_cons_zero, List.getElem?_cons_succ, lv, evT, tg_unknown_member, tg_unknown_apply, tg_unknown_read, tg_unknown_number, tg_unknown_plus, tg_unknown_times, tg_unknown_row, tg_unknown_write, tg_unknown_is, tg_unknown_not, tg_unknown_all, tg_unknown_any, tg_unknown_if, tg_unknown_same, tg_unknown_equal, tg_unknown_most, tg_unknown_less, tg_member_unknown, tg_member_apply, tg_member_read, tg_member_number, tg_member_plus, tg_member_times, tg_member_row, tg_member_write, tg_member_is, tg_member_not, tg_member_all, tg_member_any, tg_member_if, tg_member_same, tg_member_equal, tg_member_most, tg_member_less, tg_apply_unknown, tg_apply_member, tg_apply_read, tg_apply_number, tg_apply_plus, tg_apply_times, tg_apply_row, tg_apply_write, tg_apply_is, tg_apply_not, tg_apply_all, tg_apply_any, tg_apply_if, tg_apply_same, tg_apply_equal, tg_apply_most, tg_apply_less, tg_read_unknown, tg_read_member, tg_read_apply, tg_read_number, tg_read_plus, tg_read_times, tg_read_row, tg_read_write, tg_read_is, tg_read_not, tg_read_all, tg_read_any, tg_read_if, tg_read_same, tg_read_equal, tg_read_most, tg_read_less, tg_number_unknown, tg_number_member, tg_number_apply, tg_number_read, tg_number_plus, tg_number_times, tg_number_row, tg_number_write, tg_number_is, tg_number_not, tg_number_all, tg_number_any, tg_number_if, tg_number_same, tg_number_equal, tg_number_most, tg_number_less, tg_plus_unknown, tg_plus_member, tg_plus_apply, tg_plus_read, tg_plus_number, tg_plus_times, tg_plus_row, tg_plus_write, tg_plus_is, tg_plus_not, tg_plus_all, tg_plus_any, tg_plus_if, tg_plus_same, tg_plus_equal, tg_plus_most, tg_plus_less, tg_times_unknown, tg_times_member, tg_times_apply, tg_times_read, tg_times_number, tg_times_plus, tg_times_row, tg_times_write, tg_times_is, tg_times_not, tg_times_all, tg_times_any, tg_times_if, tg_times_same, tg_times_equal, tg_times_most, tg_times_less, tg_row_unknown, tg_row_member, tg_row_apply, tg_row_read, tg_row_number, tg_row_plus, tg_row_times, tg_row_write, tg_row_is, tg_row_not, tg_row_all, tg_row_any, tg_row_if, tg_row_same, tg_row_equal, tg_row_most, tg_row_less, tg_write_unknown, tg_write_member, tg_write_apply, tg_write_read, tg_write_number, tg_write_plus, tg_write_times, tg_write_row, tg_write_is, tg_write_not, tg_write_all, tg_write_any, tg_write_if, tg_write_same, tg_write_equal, tg_write_most, tg_write_less, tg_is_unknown, tg_is_member, tg_is_apply, tg_is_read, tg_is_number, tg_is_plus, tg_is_times, tg_is_row, tg_is_write, tg_is_not, tg_is_all, tg_is_any, tg_is_if, tg_is_same, tg_is_equal, tg_is_most, tg_is_less, tg_not_unknown, tg_not_member, tg_not_apply, tg_not_read, tg_not_number, tg_not_plus, tg_not_times, tg_not_row, tg_not_write, tg_not_is, tg_not_all, tg_not_any, tg_not_if, tg_not_same, tg_not_equal, tg_not_most, tg_not_less, tg_all_unknown, tg_all_member, tg_all_apply, tg_all_read, tg_all_number, tg_all_plus, tg_all_times, tg_all_row, tg_all_write, tg_all_is, tg_all_not, tg_all_any, tg_all_if, tg_all_same, tg_all_equal, tg_all_most, tg_all_less, tg_any_unknown, tg_any_member, tg_any_apply, tg_any_read, tg_any_number, tg_any_plus, tg_any_times, tg_any_row, tg_any_write, tg_any_is, tg_any_not, tg_any_all, tg_any_if, tg_any_same, tg_any_equal, tg_any_most, tg_any_less, tg_if_unknown, tg_if_member, tg_if_apply, tg_if_read, tg_if_number, tg_if_plus, tg_if_times, tg_if_row, tg_if_write, tg_if_is, tg_if_not, tg_if_all, tg_if_any, tg_if_same, tg_if_equal, tg_if_most, tg_if_less, tg_same_unknown, tg_same_member, tg_same_apply, tg_same_read, tg_same_number, tg_same_plus, tg_same_times, tg_same_row, tg_same_write, tg_same_is, tg_same_not, tg_same_all, tg_same_any, tg_same_if, tg_same_equal, tg_same_most, tg_same_less, tg_equal_unknown, tg_equal_member, tg_equal_apply, tg_equal_read, tg_equal_number, tg_equal_plus, tg_equal_times, tg_equal_row, tg_equal_write, tg_equal_is, tg_equal_not, tg_equal_all, tg_equal_any, tg_equal_if, tg_equal_same, tg_equal_most, tg_equal_less, tg_most_unknown, tg_most_member, tg_most_apply, tg_most_read, tg_most_number, tg_most_plus, tg_most_times, tg_most_row, tg_most_write, tg_most_is, tg_most_not, tg_most_all, tg_most_any, tg_most_if, tg_most_same, tg_most_equal, tg_most_less, tg_less_unknown, tg_less_member, tg_less_apply, tg_less_read, tg_less_number, tg_less_plus, tg_less_times, tg_less_row, tg_less_write, tg_less_is, tg_less_not, tg_less_all, tg_less_any, tg_less_if, tg_less_same, tg_less_equal, tg_less_most, tg_minus_unknown, tg_minus_member, tg_minus_apply, tg_minus_read, tg_minus_number, tg_minus_plus, tg_minus_times, tg_minus_row, tg_minus_write, tg_minus_is, tg_minus_not, tg_minus_all, tg_minus_any, tg_minus_if, tg_minus_same, tg_minus_equal, tg_minus_most, tg_minus_less, tg_rows_unknown, tg_rows_member, tg_rows_apply, tg_rows_read, tg_rows_number, tg_rows_plus, tg_rows_times, tg_rows_row, tg_rows_write, tg_rows_is, tg_rows_not, tg_rows_all, tg_rows_any, tg_rows_if, tg_rows_same, tg_rows_equal, tg_rows_most, tg_rows_less]
    | plus ts =>
      rw [okT] at ht
      obtain ⟨rfl, h1, h2, k', rfl, h3⟩ := ht
      have nb := N3 (k := k') (by omega)
      have nl := N_le k'
      obtain ⟨i1, i2⟩ := evTs_ok e.ty ts _ k' h3
      have all : ∀ v ∈ evTs lk ts, VS .num k' v := fun v hv => by
        obtain ⟨i, hi, ei⟩ := List.mem_iff_getElem.mp hv
        obtain ⟨s, e1, e2⟩ := i2 i v (by rw [List.getElem?_eq_getElem hi, ei])
        rw [List.getElem?_map] at e1
        obtain ⟨_, _, rfl⟩ := Option.map_eq_some_iff.mp e1
        exact e2
      rw [evT] at lv
      simp! only [Trm.d, get_app, get_app0, set_app, set_app0, mutOf_r, listOf_r, dictOf_r, idx_r, idx_l, idx_f, idx_tup, mth_append, mth_pop, rcv_append, rcv_pop, rcv_extend, atI_0, atI_1, atI_2, atI_3, atI_4, add_rl, add_lr, add_ll, List.getElem?_cons_zero, List.getElem?_cons_succ, tg_unknown_member, tg_unknown_apply, tg_unknown_read, tg_unknown_number, tg_unknown_plus, tg_unknown_times, tg_unknown_row, tg_unknown_write, tg_unknown_is, tg_unknown_not, tg_unknown_all, tg_unknown_any, tg_unknown_if, tg_unknown_same, tg_unknown_equal, tg_unknown_most, tg_unknown_less, tg_member_unknown, tg_member_apply, tg_member_read, tg_member_number, tg_member_plus, tg_member_times, tg_member_row, tg_member_write, tg_member_is, tg_member_not, tg_member_all, tg_member_any, tg_member_if, tg_member_same, tg_member_equal, tg_member_most, tg_member_less, tg_apply_unknown, tg_apply_member, tg_apply_read, tg_apply_number, tg_apply_plus, tg_apply_times, tg_apply_row, tg_apply_write, tg_apply_is, tg_apply_not, tg_apply_all, tg_apply_any, tg_apply_if, tg_apply_same, tg_apply_equal, tg_apply_most, tg_apply_less, tg_read_unknown, tg_read_member, tg_read_apply, tg_read_number, tg_read_plus, tg_read_times, tg_read_row, tg_read_write, tg_read_is, tg_read_not, tg_read_all, tg_read_any, tg_read_if, tg_read_same, tg_read_equal, tg_read_most, tg_read_less, tg_number_unknown, tg_number_member, tg_number_apply, tg_number_read, tg_number_plus, tg_number_times, tg_number_row, tg_number_write, tg_number_is, tg_number_not, tg_number_all, tg_number_any, tg_number_if, tg_number_same, tg_number_equal, tg_number_most, tg_number_less, tg_plus_unknown, tg_plus_member, tg_plus_apply, tg_plus_read, tg_plus_number, tg_plus_times, tg_plus_row, tg_plus_write, tg_plus_is, tg_plus_not, tg_plus_all, tg_plus_any, tg_plus_if, tg_plus_same, tg_plus_equal, tg_plus_most, tg_plus_less, tg_times_unknown, tg_times_member, tg_times_apply, tg_times_read, tg_times_number, tg_times_plus, tg_times_row, tg_times_write, tg_times_is, tg_times_not, tg_times_all, tg_times_any, tg_times_if, tg_times_same, tg_times_equal, tg_times_most, tg_times_less, tg_row_unknown, tg_row_member, tg_row_apply, tg_row_read, tg_row_number, tg_row_plus, tg_row_times, tg_row_write, tg_row_is, tg_row_not, tg_row_all, tg_row_any, tg_row_if, tg_row_same, tg_row_equal, tg_row_most, tg_row_less, tg_write_unknown, tg_write_member, tg_write_apply, tg_write_read, tg_write_number, tg_write_plus, tg_write_times, tg_write_row, tg_write_is, tg_write_not, tg_write_all, tg_write_any, tg_write_if, tg_write_same, tg_write_equal, tg_write_most, tg_write_less, tg_is_unknown, tg_is_member, tg_is_apply, tg_is_read, tg_is_number, tg_is_plus, tg_is_times, tg_is_row, tg_is_write, tg_is_not, tg_is_all, tg_is_any, tg_is_if, tg_is_same, tg_is_equal, tg_is_most, tg_is_less, tg_not_unknown, tg_not_member, tg_not_apply, tg_not_read, tg_not_number, tg_not_plus, tg_not_times, tg_not_row, tg_not_write, tg_not_is, tg_not_all, tg_not_any, tg_not_if, tg_not_same, tg_not_equal, tg_not_most, tg_not_less, tg_all_unknown, tg_all_member, tg_all_apply, tg_all_read, tg_all_number, tg_all_plus, tg_all_times, tg_all_row, tg_all_write, tg_all_is, tg_all_not, tg_all_any, tg_all_if, tg_all_same, tg_all_equal, tg_all_most, tg_all_less, tg_any_unknown, tg_any_member, tg_any_apply, tg_any_read, tg_any_number, tg_any_plus, tg_any_times, tg_any_row, tg_any_write, tg_any_is, tg_any_not, tg_any_all, tg_any_if, tg_any_same, tg_any_equal, tg_any_most, tg_any_less, tg_if_unknown, tg_if_member, tg_if_apply, tg_if_read, tg_if_number, tg_if_plus, tg_if_times, tg_if_row, tg_if_write, tg_if_is, tg_if_not, tg_if_all, tg_if_any, tg_if_same, tg_if_equal, tg_if_most, tg_if_less, tg_same_unknown, tg_same_member, tg_same_apply, tg_same_read, tg_same_number, tg_same_plus, tg_same_times, tg_same_row, tg_same_write, tg_same_is, tg_same_not, tg_same_all, tg_same_any, tg_same_if, tg_same_equal, tg_same_most, tg_same_less, tg_equal_unknown, tg_equal_member, tg_equal_apply, tg_equal_read, tg_equal_number, tg_equal_plus, tg_equal_times, tg_equal_row, tg_equal_write, tg_equal_is, tg_equal_not, tg_equal_all, tg_equal_any, tg_equal_if, tg_equal_same, tg_equal_most, tg_equal_less, tg_most_unknown, tg_most_member, tg_most_apply, tg_most_read, tg_most_number, tg_most_plus, tg_most_times, tg_most_row, tg_most_write, tg_most_is, tg_most_not, tg_most_all, tg_most_any, tg_most_if, tg_most_same, tg_most_equal, tg_most_less, tg_less_unknown, tg_less_member, tg_less_apply, tg_less_read, tg_less_number, tg_less_plus, tg_less_times, tg_less_row, tg_less_write, tg_less_is, tg_less_not, tg_less_all, tg_less_any, tg_less_if, tg_less_same, tg_less_equal, tg_less_most, tg_minus_unknown, tg_minus_member, tg_minus_apply, tg_minus_read, tg_minus_number, tg_minus_plus, tg_minus_times, tg_minus_row, tg_minus_write, tg_minus_is, tg_minus_not, tg_minus_all, tg_minus_any, tg_minus_if, tg_minus_same, tg_minus_equal, tg_minus_most, tg_minus_less, tg_rows_unknown, tg_rows_member, tg_rows_apply, tg_rows_read, tg_rows_number, tg_rows_plus, tg_rows_times, tg_rows_row, tg_rows_write, tg_rows_is, tg_rows_not, tg_rows_all, tg_rows_any, tg_rows_if, tg_rows_same, tg_rows_equal, tg_rows_most, tg_rows_less, evT]
      refine wp_for (fun j ρ Z' => Z = Z' ∧ ∃ u2 u3, ρ = [some (.ref g), some (.tup [.str "plus", .tup (Trm.ds ts)]), u2, u3, some (.int (sumP ((evTs lk ts).take j)).1), some (.int (sumP ((evTs lk ts).take j)).2), none, none]) ?_
      simp! only [get_app, get_app0, set_app, set_app0, mutOf_r, listOf_r, dictOf_r, idx_r, idx_l, idx_f, idx_tup, mth_append, mth_pop, rcv_append, rcv_pop, rcv_extend, atI_0, atI_1, atI_2, atI_3, atI_4, add_rl, add_lr, add_ll, List.getElem?_cons_zero, List.getElem?_cons_succ]
      refine ⟨_, none, items_tup, pures_settled _ (trms_pure ts), ⟨rfl, none, none, rfl⟩, fun _ _ _ _ => trivial, ?_, ?_⟩
      · rintro j y ρ Z' hd ⟨rfl, u2, u3, rfl⟩
        obtain ⟨t, ht, rfl⟩ := ds_get hd
        obtain ⟨s, hs, hk1⟩ := okTs_get h3 ht
        rw [List.getElem?_map] at hs
        obtain ⟨_, _, rfl⟩ := Option.map_eq_some_iff.mp hs
        have v1 := ih k' (by omega) (by omega) t .num (m + 2) hk1 (by omega)
        have hj : j < ts.length := (List.getElem?_eq_some_iff.mp ht).1
        obtain ⟨a, b, ev, b1, _, a2, b2⟩ := evT_ok e.ty t .num k' hk1
        obtain ⟨s1, s2, s3⟩ := sumP_bd (k := k') ((evTs lk ts).take j) fun v hv => all v (List.mem_of_mem_take hv)
        have hjl : ((evTs lk ts).take j).length = j := by rw [List.length_take, i1]; omega
        rw [hjl] at s2 s3
        have hjN : j * N k' ≤ 2 * N k' := Nat.mul_le_mul_right _ (by omega)
        have s4 : (sumP ((evTs lk ts).take j)).2.natAbs < 2 ^ (2 * N k' + 3) := by
          have : 2 ^ (j * N k') < 2 ^ (2 * N k' + 3) := Nat.pow_lt_pow_right (by omega) (by omega)
          omega
        have s5 := bd_up (a := (sumP ((evTs lk ts).take j)).1) (q := 2 * N k' + 3) s2 (by omega)
        have tk1 := evTs_take (lk := lk) ht
        rw [ev] at v1 tk1
        have m1 : ∀ {S}, binE S .mul (.int (sumP ((evTs lk ts).take j)).1) (.int b) = some (.int ((sumP ((evTs lk ts).take j)).1 * b)) := mul_bd s5 b2 (by omega) (by omega) (by omega)
        have m2 : ∀ {S}, binE S .mul (.int a) (.int (sumP ((evTs lk ts).take j)).2) = some (.int (a * (sumP ((evTs lk ts).take j)).2)) := mul_bd a2 s4 (by omega) (by omega) (by omega)
        have m3 : ∀ {S}, binE S .mul (.int (sumP ((evTs lk ts).take j)).2) (.int b) = some (.int ((sumP ((evTs lk ts).take j)).2 * b)) := mul_bd s4 b2 (by omega) (by omega) (by omega)
        rw [tk1, sumP_app]
        simp! only [v1, get_app, get_app0, set_app, set_app0, mutOf_r, listOf_r, dictOf_r, idx_r, idx_l, idx_f, idx_tup, mth_append, mth_pop, rcv_append, rcv_pop, rcv_extend, atI_0, atI_1, atI_2, atI_3, atI_4, add_rl, add_lr, add_ll, List.getElem?_cons_zero, List.getElem?_cons_succ, m1, m2, m3, nP]
        exact ⟨_, _, rfl⟩
      · rintro ρ Z' ⟨rfl, u2, u3, rfl⟩
        have hlen : (Trm.ds ts).length = (evTs lk ts).length := by rw [ds_map, i1]; simp
        rw [hlen, List.take_length]
        obtain ⟨s1, s2, s3⟩ := sumP_bd (k := k') (evTs lk ts) all
        have hlN : (evTs lk ts).length * N k' ≤ 3 * N k' := Nat.mul_le_mul_right _ (by omega)
        have s4 : (sumP (evTs lk ts)).2.natAbs < 2 ^ (3 * N k' + 3) := by
          have : 2 ^ ((evTs lk ts).length * N k') < 2 ^ (3 * N k' + 3) := Nat.pow_lt_pow_right (by omega) (by omega)
          omega
        have rd := c_lred (n := m) (a := (sumP (evTs lk ts)).1) (b := (sumP (evTs lk ts)).2) s1 (by have := log_bd s4 (by omega); omega) e.cl
        simp! only [rd, lv]
    | times c t =>
      rw [okT] at ht
      obtain ⟨rfl, h1, h2, k', rfl, h3⟩ := ht
      have v1 := ih k' (by omega) (by omega) t .num (m + 2) h3 (by omega)
      obtain ⟨a, b, ev, b1, _, a2, b2⟩ := evT_ok e.ty t .num k' h3
      rw [ev] at v1
      have nb := N3 (k := k') (by omega)
      have nl := N_le k'
      have m1 : ∀ {S}, binE S .mul (.int c) (.int a) = some (.int (c * a)) := mul_bd (p := 5) (show c.natAbs < 2 ^ 5 by omega) a2 (by omega) (by omega) (by omega)
      have rd := c_lred (n := m) (a := c * a) (b := b) b1 (by have := log_bd b2 (by omega); omega) e.cl
      rw [evT, ev] at lv
      rw [evT, ev]
      simp only [nP] at lv ⊢
      simp! only [Trm.d, get_app, get_app0, set_app, set_app0, mutOf_r, listOf_r, dictOf_r, idx_r, idx_l, idx_f, idx_tup, mth_append, mth_pop, rcv_append, rcv_pop, rcv_extend, atI_0, atI_1, atI_2, atI_3, atI_4, add_rl, add_lr, add_ll, List.getElem?_cons_zero, List.getElem?_cons_succ, v1, m1, rd, lv, tg_unknown_member, tg_unknown_apply, tg_unknown_read, tg_unknown_number, tg_unknown_plus, tg_unknown_times, tg_unknown_row, tg_unknown_write, tg_unknown_is, tg_unknown_not, tg_unknown_all, tg_unknown_any, tg_unknown_if, tg_unknown_same, tg_unknown_equal, tg_unknown_most, tg_unknown_less, tg_member_unknown, tg_member_apply, tg_member_read, tg_member_number, tg_member_plus, tg_member_times, tg_member_row, tg_member_write, tg_member_is, tg_member_not, tg_member_all, tg_member_any, tg_member_if, tg_member_same, tg_member_equal, tg_member_most, tg_member_less, tg_apply_unknown, tg_apply_member, tg_apply_read, tg_apply_number, tg_apply_plus, tg_apply_times, tg_apply_row, tg_apply_write, tg_apply_is, tg_apply_not, tg_apply_all, tg_apply_any, tg_apply_if, tg_apply_same, tg_apply_equal, tg_apply_most, tg_apply_less, tg_read_unknown, tg_read_member, tg_read_apply, tg_read_number, tg_read_plus, tg_read_times, tg_read_row, tg_read_write, tg_read_is, tg_read_not, tg_read_all, tg_read_any, tg_read_if, tg_read_same, tg_read_equal, tg_read_most, tg_read_less, tg_number_unknown, tg_number_member, tg_number_apply, tg_number_read, tg_number_plus, tg_number_times, tg_number_row, tg_number_write, tg_number_is, tg_number_not, tg_number_all, tg_number_any, tg_number_if, tg_number_same, tg_number_equal, tg_number_most, tg_number_less, tg_plus_unknown, tg_plus_member, tg_plus_apply, tg_plus_read, tg_plus_number, tg_plus_times, tg_plus_row, tg_plus_write, tg_plus_is, tg_plus_not, tg_plus_all, tg_plus_any, tg_plus_if, tg_plus_same, tg_plus_equal, tg_plus_most, tg_plus_less, tg_times_unknown, tg_times_member, tg_times_apply, tg_times_read, tg_times_number, tg_times_plus, tg_times_row, tg_times_write, tg_times_is, tg_times_not, tg_times_all, tg_times_any, tg_times_if, tg_times_same, tg_times_equal, tg_times_most, tg_times_less, tg_row_unknown, tg_row_member, tg_row_apply, tg_row_read, tg_row_number, tg_row_plus, tg_row_times, tg_row_write, tg_row_is, tg_row_not, tg_row_all, tg_row_any, tg_row_if, tg_row_same, tg_row_equal, tg_row_most, tg_row_less, tg_write_unknown, tg_write_member, tg_write_apply, tg_write_read, tg_write_number, tg_write_plus, tg_write_times, tg_write_row, tg_write_is, tg_write_not, tg_write_all, tg_write_any, tg_write_if, tg_write_same, tg_write_equal, tg_write_most, tg_write_less, tg_is_unknown, tg_is_member, tg_is_apply, tg_is_read, tg_is_number, tg_is_plus, tg_is_times, tg_is_row, tg_is_write, tg_is_not, tg_is_all, tg_is_any, tg_is_if, tg_is_same, tg_is_equal, tg_is_most, tg_is_less, tg_not_unknown, tg_not_member, tg_not_apply, tg_not_read, tg_not_number, tg_not_plus, tg_not_times, tg_not_row, tg_not_write, tg_not_is, tg_not_all, tg_not_any, tg_not_if, tg_not_same, tg_not_equal, tg_not_most, tg_not_less, tg_all_unknown, tg_all_member, tg_all_apply, tg_all_read, tg_all_number, tg_all_plus, tg_all_times, tg_all_row, tg_all_write, tg_all_is, tg_all_not, tg_all_any, tg_all_if, tg_all_same, tg_all_equal, tg_all_most, tg_all_less, tg_any_unknown, tg_any_member, tg_any_apply, tg_any_read, tg_any_number, tg_any_plus, tg_any_times, tg_any_row, tg_any_write, tg_any_is, tg_any_not, tg_any_all, tg_any_if, tg_any_same, tg_any_equal, tg_any_most, tg_any_less, tg_if_unknown, tg_if_member, tg_if_apply, tg_if_read, tg_if_number, tg_if_plus, tg_if_times, tg_if_row, tg_if_write, tg_if_is, tg_if_not, tg_if_all, tg_if_any, tg_if_same, tg_if_equal, tg_if_most, tg_if_less, tg_same_unknown, tg_same_member, tg_same_apply, tg_same_read, tg_same_number, tg_same_plus, tg_same_times, tg_same_row, tg_same_write, tg_same_is, tg_same_not, tg_same_all, tg_same_any, tg_same_if, tg_same_equal, tg_same_most, tg_same_less, tg_equal_unknown, tg_equal_member, tg_equal_apply, tg_equal_read, tg_equal_number, tg_equal_plus, tg_equal_times, tg_equal_row, tg_equal_write, tg_equal_is, tg_equal_not, tg_equal_all, tg_equal_any, tg_equal_if, tg_equal_same, tg_equal_most, tg_equal_less, tg_most_unknown, tg_most_member, tg_most_apply, tg_most_read, tg_most_number, tg_most_plus, tg_most_times, tg_most_row, tg_most_write, tg_most_is, tg_most_not, tg_most_all, tg_most_any, tg_most_if, tg_most_same, tg_most_equal, tg_most_less, tg_less_unknown, tg_less_member, tg_less_apply, tg_less_read, tg_less_number, tg_less_plus, tg_less_times, tg_less_row, tg_less_write, tg_less_is, tg_less_not, tg_less_all, tg_less_any, tg_less_if, tg_less_same, tg_less_equal, tg_less_most, tg_minus_unknown, tg_minus_member, tg_minus_apply, tg_minus_read, tg_minus_number, tg_minus_plus, tg_minus_times, tg_minus_row, tg_minus_write, tg_minus_is, tg_minus_not, tg_minus_all, tg_minus_any, tg_minus_if, tg_minus_same, tg_minus_equal, tg_minus_most, tg_minus_less, tg_rows_unknown, tg_rows_member, tg_rows_apply, tg_rows_read, tg_rows_number, tg_rows_plus, tg_rows_times, tg_rows_row, tg_rows_write, tg_rows_is, tg_rows_not, tg_rows_all, tg_rows_any, tg_rows_if, tg_rows_same, tg_rows_equal, tg_rows_most, tg_rows_less]
    | app nm ts =>
      rw [okT] at ht
      obtain ⟨ks, kr, ss, k', hm, hs, hss, rfl, h3⟩ := ht
      obtain ⟨xs, c, e1, e2, e3⟩ := en_fun e hm
      have hvs := evTs_vs e h3
      obtain ⟨g1, g2⟩ := get_en (vs := evTs lk ts) e3 hvs
      have pv : pures (evTs lk ts) = true := pures_of fun v m => (hvs v m).1
      rw [evT, e1] at lv
      rw [evT, e1]
      simp! only [Trm.d, get_app, get_app0, set_app, set_app0, mutOf_r, listOf_r, dictOf_r, idx_r, idx_l, idx_f, idx_tup, mth_append, mth_pop, rcv_append, rcv_pop, rcv_extend, atI_0, atI_1, atI_2, atI_3, atI_4, add_rl, add_lr, add_ll, List.getElem?_cons_zero, List.getElem?_cons_succ, tg_unknown_member, tg_unknown_apply, tg_unknown_read, tg_unknown_number, tg_unknown_plus, tg_unknown_times, tg_unknown_row, tg_unknown_write, tg_unknown_is, tg_unknown_not, tg_unknown_all, tg_unknown_any, tg_unknown_if, tg_unknown_same, tg_unknown_equal, tg_unknown_most, tg_unknown_less, tg_member_unknown, tg_member_apply, tg_member_read, tg_member_number, tg_member_plus, tg_member_times, tg_member_row, tg_member_write, tg_member_is, tg_member_not, tg_member_all, tg_member_any, tg_member_if, tg_member_same, tg_member_equal, tg_member_most, tg_member_less, tg_apply_unknown, tg_apply_member, tg_apply_read, tg_apply_number, tg_apply_plus, tg_apply_times, tg_apply_row, tg_apply_write, tg_apply_is, tg_apply_not, tg_apply_all, tg_apply_any, tg_apply_if, tg_apply_same, tg_apply_equal, tg_apply_most, tg_apply_less, tg_read_unknown, tg_read_member, tg_read_apply, tg_read_number, tg_read_plus, tg_read_times, tg_read_row, tg_read_write, tg_read_is, tg_read_not, tg_read_all, tg_read_any, tg_read_if, tg_read_same, tg_read_equal, tg_read_most, tg_read_less, tg_number_unknown, tg_number_member, tg_number_apply, tg_number_read, tg_number_plus, tg_number_times, tg_number_row, tg_number_write, tg_number_is, tg_number_not, tg_number_all, tg_number_any, tg_number_if, tg_number_same, tg_number_equal, tg_number_most, tg_number_less, tg_plus_unknown, tg_plus_member, tg_plus_apply, tg_plus_read, tg_plus_number, tg_plus_times, tg_plus_row, tg_plus_write, tg_plus_is, tg_plus_not, tg_plus_all, tg_plus_any, tg_plus_if, tg_plus_same, tg_plus_equal, tg_plus_most, tg_plus_less, tg_times_unknown, tg_times_member, tg_times_apply, tg_times_read, tg_times_number, tg_times_plus, tg_times_row, tg_times_write, tg_times_is, tg_times_not, tg_times_all, tg_times_any, tg_times_if, tg_times_same, tg_times_equal, tg_times_most, tg_times_less, tg_row_unknown, tg_row_member, tg_row_apply, tg_row_read, tg_row_number, tg_row_plus, tg_row_times, tg_row_write, tg_row_is, tg_row_not, tg_row_all, tg_row_any, tg_row_if, tg_row_same, tg_row_equal, tg_row_most, tg_row_less, tg_write_unknown, tg_write_member, tg_write_apply, tg_write_read, tg_write_number, tg_write_plus, tg_write_times, tg_write_row, tg_write_is, tg_write_not, tg_write_all, tg_write_any, tg_write_if, tg_write_same, tg_write_equal, tg_write_most, tg_write_less, tg_is_unknown, tg_is_member, tg_is_apply, tg_is_read, tg_is_number, tg_is_plus, tg_is_times, tg_is_row, tg_is_write, tg_is_not, tg_is_all, tg_is_any, tg_is_if, tg_is_same, tg_is_equal, tg_is_most, tg_is_less, tg_not_unknown, tg_not_member, tg_not_apply, tg_not_read, tg_not_number, tg_not_plus, tg_not_times, tg_not_row, tg_not_write, tg_not_is, tg_not_all, tg_not_any, tg_not_if, tg_not_same, tg_not_equal, tg_not_most, tg_not_less, tg_all_unknown, tg_all_member, tg_all_apply, tg_all_read, tg_all_number, tg_all_plus, tg_all_times, tg_all_row, tg_all_write, tg_all_is, tg_all_not, tg_all_any, tg_all_if, tg_all_same, tg_all_equal, tg_all_most, tg_all_less, tg_any_unknown, tg_any_member, tg_any_apply, tg_any_read, tg_any_number, tg_any_plus, tg_any_times, tg_any_row, tg_any_write, tg_any_is, tg_any_not, tg_any_all, tg_any_if, tg_any_same, tg_any_equal, tg_any_most, tg_any_less, tg_if_unknown, tg_if_member, tg_if_apply, tg_if_read, tg_if_number, tg_if_plus, tg_if_times, tg_if_row, tg_if_write, tg_if_is, tg_if_not, tg_if_all, tg_if_any, tg_if_same, tg_if_equal, tg_if_most, tg_if_less, tg_same_unknown, tg_same_member, tg_same_apply, tg_same_read, tg_same_number, tg_same_plus, tg_same_times, tg_same_row, tg_same_write, tg_same_is, tg_same_not, tg_same_all, tg_same_any, tg_same_if, tg_same_equal, tg_same_most, tg_same_less, tg_equal_unknown, tg_equal_member, tg_equal_apply, tg_equal_read, tg_equal_number, tg_equal_plus, tg_equal_times, tg_equal_row, tg_equal_write, tg_equal_is, tg_equal_not, tg_equal_all, tg_equal_any, tg_equal_if, tg_equal_same, tg_equal_most, tg_equal_less, tg_most_unknown, tg_most_member, tg_most_apply, tg_most_read, tg_most_number, tg_most_plus, tg_most_times, tg_most_row, tg_most_write, tg_most_is, tg_most_not, tg_most_all, tg_most_any, tg_most_if, tg_most_same, tg_most_equal, tg_most_less, tg_less_unknown, tg_less_member, tg_less_apply, tg_less_read, tg_less_number, tg_less_plus, tg_less_times, tg_less_row, tg_less_write, tg_less_is, tg_less_not, tg_less_all, tg_less_any, tg_less_if, tg_less_same, tg_less_equal, tg_less_most, tg_minus_unknown, tg_minus_member, tg_minus_apply, tg_minus_read, tg_minus_number, tg_minus_plus, tg_minus_times, tg_minus_row, tg_minus_write, tg_minus_is, tg_minus_not, tg_minus_all, tg_minus_any, tg_minus_if, tg_minus_same, tg_minus_equal, tg_minus_most, tg_minus_less, tg_rows_unknown, tg_rows_member, tg_rows_apply, tg_rows_read, tg_rows_number, tg_rows_plus, tg_rows_times, tg_rows_row, tg_rows_write, tg_rows_is, tg_rows_not, tg_rows_all, tg_rows_any, tg_rows_if, tg_rows_same, tg_rows_equal, tg_rows_most, tg_rows_less, e2, OV.at, settle_pure _ _ (kval_pure kr _), g1]
      refine wp_comp (fun j vs Z' => vs = (evTs lk ts).take j ∧ Z = Z') ?_
      simp! only [get_app, get_app0, set_app, set_app0, mutOf_r, listOf_r, dictOf_r, idx_r, idx_l, idx_f, idx_tup, mth_append, mth_pop, rcv_append, rcv_pop, rcv_extend, atI_0, atI_1, atI_2, atI_3, atI_4, add_rl, add_lr, add_ll, List.getElem?_cons_zero, List.getElem?_cons_succ]
      refine ⟨_, none, items_tup, pures_settled _ (trms_pure ts), ⟨rfl, rfl⟩, fun _ _ _ _ => trivial, ?_, ?_⟩
      · rintro j y vs Z' hd ⟨rfl, rfl⟩
        obtain ⟨t, ht, rfl⟩ := ds_get hd
        obtain ⟨s', _, hk1⟩ := okTs_get h3 ht
        have v1 := ih k' (by omega) (by omega) t s' (m + 2) hk1 (by omega)
        simp! only [v1]
        exact (evTs_take ht).symm
      · rintro vs Z' ⟨rfl, rfl⟩
        have hlen : (Trm.ds ts).length = (evTs lk ts).length := by rw [ds_map, (evTs_ok e.ty ts ss k' h3).1]; simp
        rw [hlen, List.take_length]
        simp! only [g2, lv]
    | read r t =>
      rw [okT] at ht
      obtain ⟨nm, a, b, s1, k', hm, ha, hb, rfl, hr, h3⟩ := ht
      have v1 := ih k' (by omega) (by omega) t s1 (m + 2) h3 (by omega)
      have hp := (evT_ok e.ty t s1 k' h3).pure
      have wa := c__law_word e (ih k' (by omega) (by omega)) hm hb hp r 2 (m + 2) hr (by omega)
      rw [evT] at lv
      simp! only [Trm.d, get_app, get_app0, set_app, set_app0, mutOf_r, listOf_r, dictOf_r, idx_r, idx_l, idx_f, idx_tup, mth_append, mth_pop, rcv_append, rcv_pop, rcv_extend, atI_0, atI_1, atI_2, atI_3, atI_4, add_rl, add_lr, add_ll, List.getElem?_cons_zero, List.getElem?_cons_succ, v1, wa, lv, evT, tg_unknown_member, tg_unknown_apply, tg_unknown_read, tg_unknown_number, tg_unknown_plus, tg_unknown_times, tg_unknown_row, tg_unknown_write, tg_unknown_is, tg_unknown_not, tg_unknown_all, tg_unknown_any, tg_unknown_if, tg_unknown_same, tg_unknown_equal, tg_unknown_most, tg_unknown_less, tg_member_unknown, tg_member_apply, tg_member_read, tg_member_number, tg_member_plus, tg_member_times, tg_member_row, tg_member_write, tg_member_is, tg_member_not, tg_member_all, tg_member_any, tg_member_if, tg_member_same, tg_member_equal, tg_member_most, tg_member_less, tg_apply_unknown, tg_apply_member, tg_apply_read, tg_apply_number, tg_apply_plus, tg_apply_times, tg_apply_row, tg_apply_write, tg_apply_is, tg_apply_not, tg_apply_all, tg_apply_any, tg_apply_if, tg_apply_same, tg_apply_equal, tg_apply_most, tg_apply_less, tg_read_unknown, tg_read_member, tg_read_apply, tg_read_number, tg_read_plus, tg_read_times, tg_read_row, tg_read_write, tg_read_is, tg_read_not, tg_read_all, tg_read_any, tg_read_if, tg_read_same, tg_read_equal, tg_read_most, tg_read_less, tg_number_unknown, tg_number_member, tg_number_apply, tg_number_read, tg_number_plus, tg_number_times, tg_number_row, tg_number_write, tg_number_is, tg_number_not, tg_number_all, tg_number_any, tg_number_if, tg_number_same, tg_number_equal, tg_number_most, tg_number_less, tg_plus_unknown, tg_plus_member, tg_plus_apply, tg_plus_read, tg_plus_number, tg_plus_times, tg_plus_row, tg_plus_write, tg_plus_is, tg_plus_not, tg_plus_all, tg_plus_any, tg_plus_if, tg_plus_same, tg_plus_equal, tg_plus_most, tg_plus_less, tg_times_unknown, tg_times_member, tg_times_apply, tg_times_read, tg_times_number, tg_times_plus, tg_times_row, tg_times_write, tg_times_is, tg_times_not, tg_times_all, tg_times_any, tg_times_if, tg_times_same, tg_times_equal, tg_times_most, tg_times_less, tg_row_unknown, tg_row_member, tg_row_apply, tg_row_read, tg_row_number, tg_row_plus, tg_row_times, tg_row_write, tg_row_is, tg_row_not, tg_row_all, tg_row_any, tg_row_if, tg_row_same, tg_row_equal, tg_row_most, tg_row_less, tg_write_unknown, tg_write_member, tg_write_apply, tg_write_read, tg_write_number, tg_write_plus, tg_write_times, tg_write_row, tg_write_is, tg_write_not, tg_write_all, tg_write_any, tg_write_if, tg_write_same, tg_write_equal, tg_write_most, tg_write_less, tg_is_unknown, tg_is_member, tg_is_apply, tg_is_read, tg_is_number, tg_is_plus, tg_is_times, tg_is_row, tg_is_write, tg_is_not, tg_is_all, tg_is_any, tg_is_if, tg_is_same, tg_is_equal, tg_is_most, tg_is_less, tg_not_unknown, tg_not_member, tg_not_apply, tg_not_read, tg_not_number, tg_not_plus, tg_not_times, tg_not_row, tg_not_write, tg_not_is, tg_not_all, tg_not_any, tg_not_if, tg_not_same, tg_not_equal, tg_not_most, tg_not_less, tg_all_unknown, tg_all_member, tg_all_apply, tg_all_read, tg_all_number, tg_all_plus, tg_all_times, tg_all_row, tg_all_write, tg_all_is, tg_all_not, tg_all_any, tg_all_if, tg_all_same, tg_all_equal, tg_all_most, tg_all_less, tg_any_unknown, tg_any_member, tg_any_apply, tg_any_read, tg_any_number, tg_any_plus, tg_any_times, tg_any_row, tg_any_write, tg_any_is, tg_any_not, tg_any_all, tg_any_if, tg_any_same, tg_any_equal, tg_any_most, tg_any_less, tg_if_unknown, tg_if_member, tg_if_apply, tg_if_read, tg_if_number, tg_if_plus, tg_if_times, tg_if_row, tg_if_write, tg_if_is, tg_if_not, tg_if_all, tg_if_any, tg_if_same, tg_if_equal, tg_if_most, tg_if_less, tg_same_unknown, tg_same_member, tg_same_apply, tg_same_read, tg_same_number, tg_same_plus, tg_same_times, tg_same_row, tg_same_write, tg_same_is, tg_same_not, tg_same_all, tg_same_any, tg_same_if, tg_same_equal, tg_same_most, tg_same_less, tg_equal_unknown, tg_equal_member, tg_equal_apply, tg_equal_read, tg_equal_number, tg_equal_plus, tg_equal_times, tg_equal_row, tg_equal_write, tg_equal_is, tg_equal_not, tg_equal_all, tg_equal_any, tg_equal_if, tg_equal_same, tg_equal_most, tg_equal_less, tg_most_unknown, tg_most_member, tg_most_apply, tg_most_read, tg_most_number, tg_most_plus, tg_most_times, tg_most_row, tg_most_write, tg_most_is, tg_most_not, tg_most_all, tg_most_any, tg_most_if, tg_most_same, tg_most_equal, tg_most_less, tg_less_unknown, tg_less_member, tg_less_apply, tg_less_read, tg_less_number, tg_less_plus, tg_less_times, tg_less_row, tg_less_write, tg_less_is, tg_less_not, tg_less_all, tg_less_any, tg_less_if, tg_less_same, tg_less_equal, tg_less_most, tg_minus_unknown, tg_minus_member, tg_minus_apply, tg_minus_read, tg_minus_number, tg_minus_plus, tg_minus_times, tg_minus_row, tg_minus_write, tg_minus_is, tg_minus_not, tg_minus_all, tg_minus_any, tg_minus_if, tg_minus_same, tg_minus_equal, tg_minus_most, tg_minus_less, tg_rows_unknown, tg_rows_member, tg_rows_apply, tg_rows_read, tg_rows_number, tg_rows_plus, tg_rows_times, tg_rows_row, tg_rows_write, tg_rows_is, tg_rows_not, tg_rows_all, tg_rows_any, tg_rows_if, tg_rows_same, tg_rows_equal, tg_rows_most, tg_rows_less]
end
end Pg
end
section
set_option Elab.async false
set_option linter.all false
set_option maxRecDepth 100000
set_option maxHeartbeats 8000000
namespace Pg
open Ev
local macro_rules
  | `(tactic| simp! only [$as,*] $[$l]?) => `(tactic| simp only [wpB_cons, wpB_nil, wpS_set, wpS_setT, wpS_par, wpS_setI, wpS_expr, wpS_ret, wpS_ife, wpS_raise, wpS_try, wpS_aug, wpE_var, wpE_cst, wpE_tup, wpE_lst, wpE_dct0, wpE_bin, wpE_neg, wpE_not, wpE_and, wpE_or, wpE_cmp, wpE_cmp2, wpE_is, wpE_ife, wpE_idx, wpE_sl, wpE_call, wpE_blt, wpE_mth, wpE_isi, wpEs_nil, wpEs_cons, wpR_ok, wpR_ex, wpO_some, wpO_map, wpT_true, wpT_false, wpT_not, wpIfs_nil, wpIfs_one, getV_0, getV_s, List.set_cons_succ, List.set_cons_zero, g0_F, g0_isa, truth_non, truth_bl, truth_int, truth_tup, truth_lst, truth_fz, Option.map_some, Option.isSome_some, if_true, Bool.false_eq_true, if_false, Bool.not_true, Bool.not_false, isPart, setTg, setNames, bin_add, bin_sub, cmp_lt, cmp_gt, cmp_le, cmp_ge, cmp_eq, orD_some, cmp_ne, eq_int, eq_str, abs_int, tuple_seq, list_seq, seqOf_tup, seqOf_lst, seqOf_fz, seqOf_ref, int_bl, mdl, fdl, min2, max2, pu_non, pu_bl, pu_int, pu_str, pu_nil, pu_cons, pure_tup, Bool.and_self, Int.reduceLT, and_true, true_and, decide_true, decide_false, isC_b_non, isC_n_bl, isC_n_int, isC_b_int, isC_n_str, isC_b_str, isC_n_tup, isC_b_tup, isC_n_lst, isC_b_lst, isC_n_fz, isC_b_fz, isC_n_dct, isC_b_dct, isC_n_ref, isC_b_ref, isC_n_exc, isC_b_exc, isC_n_non, isC_true_true_true, isC_true_true_false, isC_true_false_true, isC_true_false_false, isC_false_true_true, isC_false_true_false, isC_false_false_true, isC_false_false_false, isTys_nil, isTys_c, isTy_exv, isTy_exc, isTy_non_int, isTy_non_str, isTy_non_tuple, isTy_non_list, isTy_non_dict, isTy_non_bool, isTy_bl_int, isTy_bl_str, isTy_bl_tuple, isTy_bl_list, isTy_bl_dict, isTy_bl_bool, isTy_int_int, isTy_int_str, isTy_int_tuple, isTy_int_list, isTy_int_dict, isTy_int_bool, isTy_str_int, isTy_str_str, isTy_str_tuple, isTy_str_list, isTy_str_dict, isTy_str_bool, isTy_tup_int, isTy_tup_str, isTy_tup_tuple, isTy_tup_list, isTy_tup_dict, isTy_tup_bool, isTy_lst_int, isTy_lst_str, isTy_lst_tuple, isTy_lst_list, isTy_lst_dict, isTy_lst_bool, isTy_fz_int, isTy_fz_str, isTy_fz_tuple, isTy_fz_list, isTy_fz_dict, isTy_fz_bool, isTy_dct_int, isTy_dct_str, isTy_dct_tuple, isTy_dct_list, isTy_dct_dict, isTy_dct_bool, Option.bind_some, settle_int, settle_str, settle_bl, settle_non, settle_ref, settle_fz, settle_exc, settle_tup, settle_lst, settle_dct, settles_nil, settles_cons, $as,*] $[$l]?)
variable {n : Nat} {S : Sto}
/-! ### the stream as a function -/
def dgS (c : Int) : Nat → Int × List Int
  | 0 => ((if c < 0 then -c else c), [])
  | k + 1 => ((dgS c k).1.fdiv 1000003, (dgS c k).2 ++ [(dgS c k).1.fmod 1000003])
def mxS (c : Int) : Nat → Int × Int × List Int
  | 0 => (c.fmod 2147483647 + 48271, c.fmod 2147483629 + 16807, [])
  | k + 1 =>
    let u := ((mxS c k).1 * 48271).fmod 2147483647
    let v := ((mxS c k).2.1 * 69621 + k).fmod 2147483629
    (u, v, (mxS c k).2.2 ++ [(u + v).fdiv 7])
def strF (c : Int) (m : Nat) : List Int := if 0 < (dgS c m).1 then (dgS c m).2 else (mxS c m).2.2
theorem dgS_len (c : Int) : ∀ k, (dgS c k).2.length = k
  | 0 => rfl
  | k + 1 => by
    show ((dgS c k).2 ++ [_]).length = k + 1
    rw [List.length_append, dgS_len c k]; rfl
theorem mxS_len (c : Int) : ∀ k, (mxS c k).2.2.length = k
  | 0 => rfl
  | k + 1 => by
    show ((mxS c k).2.2 ++ [_]).length = k + 1
    rw [List.length_append, mxS_len c k]; rfl
theorem mxS_bd (c : Int) : ∀ k, (0 ≤ (mxS c k).1 ∧ (mxS c k).1 < 2 ^ 40) ∧ (0 ≤ (mxS c k).2.1 ∧ (mxS c k).2.1 < 2 ^ 40)
  | 0 => by
    have b1 := fmod_bd (i := c) (j := 2147483647) (by omega)
    have b2 := fmod_bd (i := c) (j := 2147483629) (by omega)
    show (0 ≤ c.fmod 2147483647 + 48271 ∧ c.fmod 2147483647 + 48271 < 2 ^ 40) ∧ (0 ≤ c.fmod 2147483629 + 16807 ∧ c.fmod 2147483629 + 16807 < 2 ^ 40)
    omega
  | k + 1 => by
    have b1 := fmod_bd (i := (mxS c k).1 * 48271) (j := 2147483647) (by omega)
    have b2 := fmod_bd (i := (mxS c k).2.1 * 69621 + k) (j := 2147483629) (by omega)
    show (0 ≤ ((mxS c k).1 * 48271).fmod 2147483647 ∧ ((mxS c k).1 * 48271).fmod 2147483647 < 2 ^ 40) ∧ (0 ≤ ((mxS c k).2.1 * 69621 + k).fmod 2147483629 ∧ ((mxS c k).2.1 * 69621 + k).fmod 2147483629 < 2 ^ 40)
    omega
theorem c_stream {m : Nat} {c : Int} (hm : m ≤ 1000) (hc : Cl S) : F (n + 1) 8 [.int c, .int m] S = some (.ok (.lst ((strF c m).map .int)) S) := by
  refine wpR_is (e__law_stream (by simp only [settle_int, settle_str, settle_bl, settle_non, settle_ref, settle_fz, settle_exc, settle_tup, settle_lst, settle_dct, settles_nil, settles_cons]; rfl) ?_)
  unfold b__law_stream
  simp! only [wpB_nil]
  refine wp_for (fun k ρ S' => ∃ kv : Option D, ρ = [some (.int c), some (.int m), some (.ref S.length), some (.int (dgS c k).1), kv, none, none, none] ∧ S' = S ++ [.lst ((dgS c k).2.map .int)]) ?_
  simp! only [wpB_nil]
  refine ⟨_, none, items_r1 (by omega) (by omega), rng_settled, ⟨none, rfl, rfl⟩, fun _ _ _ _ => trivial, ?_, ?_⟩
  · rintro k d ρ S' hd ⟨kv, rfl, rfl⟩
    obtain ⟨rfl, hk⟩ := rng_at hd
    have hx := dgS_len c k
    have hg : (S ++ [D.lst ((dgS c k).2.map .int)])[S.length]? = some (.lst ((dgS c k).2.map .int)) := by simp
    simp! only [rcv_lst hg, app_lst hg (by simp; omega) (v := .int _) rfl, set_app0, List.set_cons_zero]
    exact ⟨some (.int k), rfl, by simp [dgS]⟩
  · rintro ρ S' ⟨kv, rfl, rfl⟩
    rw [rng_len]
    have hmm : ((m : Nat) : Int).toNat = m := by omega
    rw [hmm]
    simp! only [wpB_nil]
    refine wpT_d (fun hleft => ?_) fun hleft => ?_
    · simp! only [wpB_nil]
      rw [leave_l0 (S := S) (l := [.lst ((dgS c m).2.map .int)]) hc rfl (ints_pure _), wpR_ok]
      exact ⟨by unfold strF; rw [if_pos hleft], rfl⟩
    · simp! only [List.length_append, List.length_cons, List.length_nil, List.append_assoc, List.cons_append, List.nil_append]
      refine wp_for (fun k ρ S' => ∃ kv : Option D, ρ = [some (.int c), some (.int m), some (.ref S.length), some (.int (dgS c m).1), kv, some (.ref (S.length + 1)), some (.int (mxS c k).1), some (.int (mxS c k).2.1)] ∧ S' = S ++ [.lst ((dgS c m).2.map .int), .lst ((mxS c k).2.2.map .int)]) ?_
      simp! only [wpB_nil]
      refine ⟨_, none, items_r1 (by omega) (by omega), rng_settled, ⟨kv, rfl, rfl⟩, fun _ _ _ _ => trivial, ?_, ?_⟩
      · rintro k d ρ S' hd ⟨kv, rfl, rfl⟩
        obtain ⟨rfl, hk⟩ := rng_at hd
        have hy := mxS_len c k
        obtain ⟨hu, hv⟩ := mxS_bd c k
        have hg : (S ++ [D.lst ((dgS c m).2.map .int), .lst ((mxS c k).2.2.map .int)])[S.length + 1]? = some (.lst ((mxS c k).2.2.map .int)) := by rw [get_app]; rfl
        have w1 : ∀ {S}, binE S .mul (.int (mxS c k).1) (.int 48271) = some (.int ((mxS c k).1 * 48271)) := bin_mul (mul_small (by omega) (by decide))
        have w2 : ∀ {S}, binE S .mul (.int (mxS c k).2.1) (.int 69621) = some (.int ((mxS c k).2.1 * 69621)) := bin_mul (mul_small (by omega) (by decide))
        simp! only [w1, w2, rcv_lst hg, app_lst hg (by simp; omega) (v := .int _) rfl, set_app, List.set_cons_zero, List.set_cons_succ]
        exact ⟨some (.int k), rfl, by simp [mxS]⟩
      · rintro ρ S' ⟨kv, rfl, rfl⟩
        rw [rng_len, hmm]
        simp! only [wpB_nil]
        rw [leave_lst (S := S) (l := [.lst ((dgS c m).2.map .int), .lst ((mxS c m).2.2.map .int)]) (k := 1) hc rfl (ints_pure _), wpR_ok]
        exact ⟨by unfold strF; rw [if_neg hleft], rfl⟩
theorem c__law_right {s : So} {k : Nat} {v : D} (hv : VS s k v) (hc : Cl S) : F (n + 1) 23 [v, v] S = some (.ok (.bl true) S) := by
  cases s with
  | tab m =>
    obtain ⟨j, rfl, _⟩ := hv
    refine wpR_is (e__law_right (by simp only [settle_int, settle_str, settle_bl, settle_non, settle_ref, settle_fz, settle_exc, settle_tup, settle_lst, settle_dct, settles_nil, settles_cons]; rfl) ?_)
    unfold b__law_right
    simp! only [leave_int0 hc, leave_int hc, leave_bl0 hc, leave_bl hc, leave_str0 hc, leave_str hc, leave_non0 hc, leave_non hc, leave_tup0 hc, leave_tup hc, takeX hc, takeX0 hc]
  | num =>
    obtain ⟨a, b, rfl, _⟩ := hv
    refine wpR_is (e__law_right (by simp only [settle_int, settle_str, settle_bl, settle_non, settle_ref, settle_fz, settle_exc, settle_tup, settle_lst, settle_dct, settles_nil, settles_cons]; rfl) ?_)
    unfold b__law_right
    have eq : ∀ {S}, eqE S (.tup [.int a, .int b]) (.tup [.int a, .int b]) = some true := fun {S} => eq_refl rfl (by simp [D.depth, depths])
    have ln : ∀ {S} {x y : D}, bltE S .len [.tup [x, y]] = some (.int 2) := by intro S x y; rfl
    simp! only [ln, eq]
    refine wp_comp (fun j vs Z' => vs = [] ∧ S = Z') ?_
    simp! only [wpB_nil]
    refine ⟨_, none, items_tup, rfl, ⟨rfl, rfl⟩, fun _ _ _ _ => trivial, ?_, ?_⟩
    · rintro j y vs Z' hd ⟨rfl, rfl⟩
      have hy : ∃ i : Int, y = .int i := by
        have := List.mem_of_getElem? hd
        simp at this
        rcases this with rfl | rfl
        · exact ⟨_, rfl⟩
        · exact ⟨_, rfl⟩
      obtain ⟨i, rfl⟩ := hy
      simp! only [wpB_nil]
    · rintro vs Z' ⟨rfl, rfl⟩
      have l0 : ∀ {S}, bltE S .len [.lst []] = some (.int 0) := by intro S; rfl
      simp! only [l0, leave_int0 hc, leave_int hc, leave_bl0 hc, leave_bl hc, leave_str0 hc, leave_str hc, leave_non0 hc, leave_non hc, leave_tup0 hc, leave_tup hc, takeX hc, takeX0 hc]
/-! ### the values in the store -/
theorem settles_own : ∀ (os : List OV) (S : Sto), settles (os.map OV.own) S = (atL S.length os, S ++ inL os)
  | [], S => by simp [settles_nil, atL, inL]
  | o :: os, S => by
    rw [List.map_cons, settles_cons, settle_own o]
    simp only [settles_own os]
    rw [List.length_append, List.append_assoc]
    rfl
def ovR : List Rw → List Int → List OV
  | [], _ => []
  | r :: rs, xs => rowV r xs :: ovR rs (rowX r xs)
theorem ovS_ovR (rs : List Rw) (xs : List Int) : (ovS rs xs).1 = ovR rs xs := by
  have : ∀ (rs : List Rw) (acc : List OV × List Int), (rs.foldl (fun (acc : List OV × List Int) r => (acc.1 ++ [rowV r acc.2], rowX r acc.2)) acc).1 = acc.1 ++ ovR rs acc.2 := fun rs => by
    induction rs with
    | nil => intro acc; simp [ovR]
    | cons r rs ih => intro acc; rw [List.foldl_cons, ih]; simp [ovR]
  unfold ovS
  rw [this]; rfl
theorem ovR_get : ∀ (rs : List Rw) (xs : List Int) (i : Nat) (r : Rw), rs[i]? = some r → ∃ ys, (ovR rs xs)[i]? = some (rowV r ys)
  | [], _, _, _, h => by simp at h
  | r' :: rs, xs, 0, r, h => by simp at h; subst h; exact ⟨xs, rfl⟩
  | r' :: rs, xs, i + 1, r, h => by
    obtain ⟨ys, e⟩ := ovR_get rs (rowX r' xs) i r (by simpa using h)
    exact ⟨ys, by simpa [ovR] using e⟩
theorem atL_get {Z : Sto} : ∀ (os : List OV) (b i : Nat) (o : OV), InAt Z b (inL os) → os[i]? = some o → ∃ c, (atL b os)[i]? = some (o.at c) ∧ InAt Z c o.ins
  | [], _, _, _, _, h => by simp at h
  | p :: os, b, 0, o, hz, h => by
    simp at h; subst h
    have hz' : InAt Z b (p.ins ++ inL os) := hz
    exact ⟨b, rfl, hz'.app.1⟩
  | p :: os, b, i + 1, o, hz, h => by
    have hz' : InAt Z b (p.ins ++ inL os) := hz
    obtain ⟨c, h1, h2⟩ := atL_get os (b + p.ins.length) i o hz'.app.2 (by simpa using h)
    exact ⟨c, by simpa [atL] using h1, h2⟩
end Pg
end
section
set_option Elab.async false
set_option linter.all false
set_option maxRecDepth 100000
set_option maxHeartbeats 8000000
namespace Pg
open Ev
variable {n : Nat} {S : Sto}
section
variable {rs : List Rw} {m1 m2 lo hi : Int} {xs : List Int}
theorem WoB.rok (w : WoB rs m1 m2 lo hi) : ∀ r ∈ rs, r.ok := fun r hr => by
  have k3 : ∀ {k : Kd}, (k = .fraction ∨ k = .table m1 ∨ k = .table m2) → k.ok := fun h => by
    rcases h with rfl | rfl | rfl
    · trivial
    · exact w.m1
    · exact w.m2
  have k4 : ∀ {k : Kd}, (k = .fraction ∨ k = .table m1 ∨ k = .table m2 ∨ k = .range lo hi) → k.ok := fun h => by
    rcases h with rfl | rfl | rfl | rfl
    · trivial
    · exact w.m1
    · exact w.m2
    · exact ⟨w.ra.1, w.ra.2.2.1, w.ra.2.2.2.1⟩
  cases r with
  | unk nm k =>
    rcases w.unk hr with ⟨_, rfl⟩ | ⟨_, rfl⟩ | ⟨_, rfl⟩ | ⟨_, rfl⟩ | ⟨_, rfl⟩
    · trivial
    · trivial
    · exact k4 (.inr (.inr (.inr rfl)))
    · exact w.m1
    · exact w.m2
  | fun_ nm ps k =>
    obtain ⟨_, _, h3, h4, _⟩ := w.fun_ hr
    exact ⟨fun p m => k3 (h3 p m), k4 h4⟩
  | row nm a b =>
    obtain ⟨h1, h2, _⟩ := w.row hr
    exact ⟨k3 h1, k3 h2⟩
theorem WoB.nd (w : WoB rs m1 m2 lo hi) : (ns rs).Nodup := by
  obtain ⟨f0, f1, g0, g1, g2, a0, a1, b0, b1, _, _, hp⟩ := w.ok
  have := hp.map Rw.nm
  refine this.nodup_iff.mpr ?_
  show (["p", "q", "x", "y", "n", "m", "t", "u", "f", "g", "a", "b"] : List PySem.Str).Nodup
  decide
def lkF (rs : List Rw) (xs : List Int) (nm : PySem.Str) : OV := match (ns rs).findIdx? (fun x => decide (x = nm)) with
  | some i => ((ovS rs xs).1[i]?).getD (.pu .truth 0)
  | none => .pu .truth 0
theorem lkF_at (hnd : (ns rs).Nodup) {i : Nat} {r : Rw} (h : rs[i]? = some r) : (ns rs).findIdx? (fun x => decide (x = r.nm)) = some i ∧ ∃ ys, lkF rs xs r.nm = rowV r ys ∧ (ovS rs xs).1[i]? = some (rowV r ys) := by
  have hi : i < rs.length := (List.getElem?_eq_some_iff.mp h).1
  have hn : (ns rs)[i]? = some r.nm := by unfold ns; rw [List.getElem?_map, h]; rfl
  have hni : i < (ns rs).length := (List.getElem?_eq_some_iff.mp hn).1
  have hnv : (ns rs)[i] = r.nm := (List.getElem?_eq_some_iff.mp hn).2
  have e1 : (ns rs).findIdx? (fun x => decide (x = r.nm)) = some i := by
    rw [List.findIdx?_eq_some_iff_getElem]
    refine ⟨hni, by rw [hnv]; simp, fun j hj => ?_⟩
    simp only [decide_eq_true_eq, Bool.not_eq_true, decide_eq_false_iff_not]
    intro e
    have := (List.getElem_inj hnd).mp (e.trans hnv.symm)
    omega
  obtain ⟨ys, e2⟩ := ovR_get rs xs i r h
  rw [← ovS_ovR] at e2
  refine ⟨e1, ys, ?_, e2⟩
  unfold lkF
  rw [e1]
  simp only [e2]
  rfl
/-- the store behind given = .. -/
def Gs (rs : List Rw) (xs : List Int) : Sto := inL (ovS rs xs).1 ++ [.dct ((ns rs).map .str) (atL 0 (ovS rs xs).1)]
theorem settle_val : settle (valD rs xs) [] = (.ref (inL (ovS rs xs).1).length, Gs rs xs) := by
  unfold valD
  rw [settle_dct, settles_own]
  simp [Gs]
theorem Gs_cl : Cl (Gs rs xs) := by
  unfold Gs
  have h1 : Cl (inL (ovS rs xs).1) := by
    have := Cl.nil.app (l := inL (ovS rs xs).1) (ins_under _)
    simpa using this
  refine h1.app ?_
  show (D.under _ _ && true) = true
  have : (D.dct ((ns rs).map .str) (atL 0 (ovS rs xs).1)).under ((inL (ovS rs xs).1).length + [D.dct ((ns rs).map .str) (atL 0 (ovS rs xs).1)].length) = true := by
    unfold D.under
    rw [strs_under, ats_under _ _ (by simp)]; rfl
  rw [this]; rfl
theorem Gs_e6 (hok : ∀ r ∈ rs, r.ok) (hnd : (ns rs).Nodup) {l : Sto} (hc : Cl (Gs rs xs ++ l)) : E6 rs (lkF rs xs) (inL (ovS rs xs).1).length (Gs rs xs ++ l) := by
  refine ⟨hc, fun r hr => ?_, fun r hr => ?_⟩
  · obtain ⟨i, hi, e⟩ := List.mem_iff_getElem.mp hr
    obtain ⟨_, ys, h1, _⟩ := lkF_at (xs := xs) hnd (show rs[i]? = some r by rw [List.getElem?_eq_getElem hi, e])
    exact ⟨hok r hr, ys, h1⟩
  · obtain ⟨i, hi, e⟩ := List.mem_iff_getElem.mp hr
    obtain ⟨h0, ys, h1, h2⟩ := lkF_at (xs := xs) hnd (show rs[i]? = some r by rw [List.getElem?_eq_getElem hi, e])
    have hz : InAt (Gs rs xs ++ l) 0 (inL (ovS rs xs).1) := fun j x hj => by
      have hl := (List.getElem?_eq_some_iff.mp hj).1
      unfold Gs
      rw [Nat.zero_add, List.append_assoc, List.getElem?_append_left hl]; exact hj
    obtain ⟨c, h3, h4⟩ := atL_get (ovS rs xs).1 0 i (rowV r ys) hz h2
    rw [h1]
    refine ⟨c, ?_, h4⟩
    have hg : (Gs rs xs ++ l)[(inL (ovS rs xs).1).length]? = some (.dct ((ns rs).map .str) (atL 0 (ovS rs xs).1)) := by
      unfold Gs
      rw [List.append_assoc, get_app0]; rfl
    have hd : dictOf (Gs rs xs ++ l) (.ref (inL (ovS rs xs).1).length) = some ((ns rs).map .str, atL 0 (ovS rs xs).1) := by unfold dictOf; simp only [hg]
    have hl : listOf (Gs rs xs ++ l) (.ref (inL (ovS rs xs).1).length) = none := by unfold listOf; simp only [hg]
    unfold idxE
    simp only [hl, hd]
    show (if keyOk (.str r.nm) = true then _ else _) = _
    rw [if_pos (show keyOk (.str r.nm) = true from rfl)]
    unfold getK
    rw [find_str, h0]
    exact h3
/-! ### given == .. -/
theorem resD_pure {k : Nat} {d : D} (h : d.pure = true) : resD S (k + 1) d = some d := by unfold resD; rw [if_pos h]
theorem resD_pures {k : Nat} : ∀ {ds : List D}, pures ds = true → ds.mapM (resD S (k + 1)) = some ds
  | [], _ => rfl
  | d :: ds, h => by
    obtain ⟨h1, h2⟩ := Bool.and_eq_true_iff.mp (show (d.pure && pures ds) = true from h)
    rw [List.mapM_cons, resD_pure h1, resD_pures h2]; rfl
theorem ed_npure (e : En) : (ed e.ks e.vs).pure = false := by unfold ed; split <;> rfl
theorem resD_ed {k : Nat} {e : En} {ps : List Kd} {kd : Kd} (he : e.Ok ps kd) : resD S (k + 2) (ed e.ks e.vs) = some (ed e.ks e.vs) := by
  have vp := he.vp
  have np := ed_npure e
  generalize e.ks = ks at np ⊢
  generalize e.vs = vs at vp np ⊢
  conv => lhs; unfold resD
  rw [np]
  cases ks with
  | nil => rfl
  | cons x ks =>
    simp only [ed, Bool.false_eq_true, if_false, resD_pures vp]
    rfl
theorem resD_edr {k b : Nat} {e : En} {ps : List Kd} {kd : Kd} (he : e.Ok ps kd) (hz : S[b]? = some (ed e.ks e.vs)) : resD S (k + 2) (.ref b) = some (ed e.ks e.vs) := by
  have vp := he.vp
  generalize e.ks = ks at hz ⊢
  generalize e.vs = vs at vp hz ⊢
  conv => lhs; unfold resD
  rw [show (D.ref b).pure = false from rfl]
  cases ks with
  | nil =>
    have hz' : S[b]? = some (.dct [] []) := hz
    simp only [Bool.false_eq_true, if_false, hz']
    rfl
  | cons x ks =>
    have hz' : S[b]? = some (.nd (x :: ks) vs) := hz
    simp only [Bool.false_eq_true, if_false, hz', resD_pures vp]
    rfl
theorem tup_npure {a : D} {ds : List D} (h : a.pure = false) : (D.tup (a :: ds)).pure = false := by
  rw [pure_tup, pu_cons, h]; rfl
theorem resD_own {k : Nat} (o : OV) : resD S (k + 3) o.own = some o.own := by
  cases o with
  | pu kd x => exact resD_pure (kval_pure kd x)
  | en ps kd ys =>
    show resD S (k + 3) (.tup [_, _]) = some (.tup [_, _])
    conv => lhs; unfold resD
    rw [tup_npure (ed_npure _)]
    simp only [Bool.false_eq_true, if_false, List.mapM_cons, List.mapM_nil, resD_ed (entV_ok ps kd ys), resD_pure (kval_pure kd _)]
    rfl
theorem resD_at {k b : Nat} (o : OV) (hz : InAt S b o.ins) : resD S (k + 3) (o.at b) = some o.own := by
  cases o with
  | pu kd x => exact resD_pure (kval_pure kd x)
  | en ps kd ys =>
    show resD S (k + 3) (.tup [.ref b, _]) = some (.tup [_, _])
    conv => lhs; unfold resD
    rw [tup_npure rfl]
    have hz0 : S[b]? = some (ed (entV ps kd ys).ks (entV ps kd ys).vs) := hz 0 _ rfl
    simp only [Bool.false_eq_true, if_false, List.mapM_cons, List.mapM_nil, resD_edr (entV_ok ps kd ys) hz0, resD_pure (kval_pure kd _)]
    rfl
theorem resD_owns {k : Nat} : ∀ os : List OV, (os.map OV.own).mapM (resD S (k + 3)) = some (os.map OV.own)
  | [] => rfl
  | o :: os => by rw [List.map_cons, List.mapM_cons, resD_own, resD_owns os]; rfl
theorem resD_ats {k : Nat} : ∀ (os : List OV) (b : Nat), InAt S b (inL os) → (atL b os).mapM (resD S (k + 3)) = some (os.map OV.own)
  | [], _, _ => rfl
  | o :: os, b, hz => by
    have hz' : InAt S b (o.ins ++ inL os) := hz
    show (o.at b :: atL (b + o.ins.length) os).mapM _ = _
    rw [List.mapM_cons, resD_at o hz'.app.1, resD_ats os _ hz'.app.2]; rfl
theorem own_depth (o : OV) : o.own.depth ≤ 20 := by
  cases o with
  | pu kd x => have := kval_depth kd x; show (kval kd x).depth ≤ 20; omega
  | en ps kd ys =>
    have h1 := kval_depth kd (tk (entV ps kd ys).xs)
    have ok := entV_ok ps kd ys
    have hk : depths (entV ps kd ys).ks ≤ 8 := depths_le _ fun d m => by
      obtain ⟨zs, rfl, _, h⟩ := ok.key d m; exact h
    have hv : depths (entV ps kd ys).vs ≤ 1 := depths_le _ fun d m => by
      obtain ⟨x, rfl⟩ := ok.val d m; exact kval_depth kd x
    have he : (ed (entV ps kd ys).ks (entV ps kd ys).vs).depth ≤ 9 := by
      generalize (entV ps kd ys).ks = ks at hk ⊢
      generalize (entV ps kd ys).vs = vs at hv ⊢
      cases ks with
      | nil => show max 0 0 + 1 ≤ 9; omega
      | cons x ks => show max (depths (x :: ks)) (depths vs) + 1 ≤ 9; omega
    show max (ed _ _).depth (max (kval _ _).depth 0) + 1 ≤ 20
    omega
theorem eq_given {l : Sto} : cmpE (Gs rs xs ++ l) .eq (.ref (inL (ovS rs xs).1).length) (valD rs xs) = some true := by
  have hg : (Gs rs xs ++ l)[(inL (ovS rs xs).1).length]? = some (.dct ((ns rs).map .str) (atL 0 (ovS rs xs).1)) := by
    unfold Gs
    rw [List.append_assoc, get_app0]; rfl
  have hz : InAt (Gs rs xs ++ l) 0 (inL (ovS rs xs).1) := fun j x hj => by
    have hl := (List.getElem?_eq_some_iff.mp hj).1
    unfold Gs
    rw [Nat.zero_add, List.append_assoc, List.getElem?_append_left hl]; exact hj
  have r1 : res (Gs rs xs ++ l) 60 (.ref (inL (ovS rs xs).1).length) = none := by
    conv => lhs; unfold res
    rw [show (D.ref (inL (ovS rs xs).1).length).pure = false from rfl]
    simp only [Bool.false_eq_true, if_false, hg]
  have r2 : resD (Gs rs xs ++ l) 60 (.ref (inL (ovS rs xs).1).length) = some (valD rs xs) := by
    conv => lhs; unfold resD
    rw [show (D.ref (inL (ovS rs xs).1).length).pure = false from rfl]
    simp only [Bool.false_eq_true, if_false, hg, resD_ats (k := 56) _ 0 hz]
    rfl
  have r3 : resD (Gs rs xs ++ l) 60 (valD rs xs) = some (valD rs xs) := by
    conv => lhs; unfold resD valD
    rw [show (D.dct ((ns rs).map .str) ((ovS rs xs).1.map OV.own)).pure = false from rfl]
    simp only [Bool.false_eq_true, if_false, resD_owns (k := 56)]
    rfl
  have hd : (valD rs xs).depth ≤ 150 := by
    have h1 : depths ((ns rs).map D.str) ≤ 0 := depths_le _ fun d m => by
      obtain ⟨x, _, rfl⟩ := List.mem_map.mp m; exact Nat.le_refl _
    have h2 : depths ((ovS rs xs).1.map OV.own) ≤ 20 := depths_le _ fun d m => by
      obtain ⟨o, _, rfl⟩ := List.mem_map.mp m; exact own_depth o
    show max (depths _) (depths _) + 1 ≤ 150
    omega
  rw [cmp_eq]
  unfold eqE
  rw [r1]
  show orD none _ _ _ = _
  show eqD _ _ _ = _
  unfold eqD
  rw [r2, r3]
  simp only [hd, and_self, if_true]
end
end Pg
end
section
set_option Elab.async false
set_option linter.all false
set_option maxRecDepth 100000
set_option maxHeartbeats 8000000
namespace Pg
open Ev
local macro_rules
  | `(tactic| simp! only [$as,*] $[$l]?) => `(tactic| simp only [wpB_cons, wpB_nil, wpS_set, wpS_setT, wpS_par, wpS_setI, wpS_expr, wpS_ret, wpS_ife, wpS_raise, wpS_try, wpS_aug, wpE_var, wpE_cst, wpE_tup, wpE_lst, wpE_dct0, wpE_bin, wpE_neg, wpE_not, wpE_and, wpE_or, wpE_cmp, wpE_cmp2, wpE_is, wpE_ife, wpE_idx, wpE_sl, wpE_call, wpE_blt, wpE_mth, wpE_isi, wpEs_nil, wpEs_cons, wpR_ok, wpR_ex, wpO_some, wpO_map, wpT_true, wpT_false, wpT_not, wpIfs_nil, wpIfs_one, getV_0, getV_s, List.set_cons_succ, List.set_cons_zero, g0_F, g0_isa, truth_non, truth_bl, truth_int, truth_tup, truth_lst, truth_fz, Option.map_some, Option.isSome_some, if_true, Bool.false_eq_true, if_false, Bool.not_true, Bool.not_false, isPart, setTg, setNames, bin_add, bin_sub, cmp_lt, cmp_gt, cmp_le, cmp_ge, cmp_eq, orD_some, cmp_ne, eq_int, eq_str, abs_int, tuple_seq, list_seq, seqOf_tup, seqOf_lst, seqOf_fz, seqOf_ref, int_bl, mdl, fdl, min2, max2, pu_non, pu_bl, pu_int, pu_str, pu_nil, pu_cons, pure_tup, Bool.and_self, Int.reduceLT, and_true, true_and, decide_true, decide_false, isC_b_non, isC_n_bl, isC_n_int, isC_b_int, isC_n_str, isC_b_str, isC_n_tup, isC_b_tup, isC_n_lst, isC_b_lst, isC_n_fz, isC_b_fz, isC_n_dct, isC_b_dct, isC_n_ref, isC_b_ref, isC_n_exc, isC_b_exc, isC_n_non, isC_true_true_true, isC_true_true_false, isC_true_false_true, isC_true_false_false, isC_false_true_true, isC_false_true_false, isC_false_false_true, isC_false_false_false, isTys_nil, isTys_c, isTy_exv, isTy_exc, isTy_non_int, isTy_non_str, isTy_non_tuple, isTy_non_list, isTy_non_dict, isTy_non_bool, isTy_bl_int, isTy_bl_str, isTy_bl_tuple, isTy_bl_list, isTy_bl_dict, isTy_bl_bool, isTy_int_int, isTy_int_str, isTy_int_tuple, isTy_int_list, isTy_int_dict, isTy_int_bool, isTy_str_int, isTy_str_str, isTy_str_tuple, isTy_str_list, isTy_str_dict, isTy_str_bool, isTy_tup_int, isTy_tup_str, isTy_tup_tuple, isTy_tup_list, isTy_tup_dict, isTy_tup_bool, isTy_lst_int, isTy_lst_str, isTy_lst_tuple, isTy_lst_list, isTy_lst_dict, isTy_lst_bool, isTy_fz_int, isTy_fz_str, isTy_fz_tuple, isTy_fz_list, isTy_fz_dict, isTy_fz_bool, isTy_dct_int, isTy_dct_str, isTy_dct_tuple, isTy_dct_list, isTy_dct_dict, isTy_dct_bool, Option.bind_some, settle_int, settle_str, settle_bl, settle_non, settle_ref, settle_fz, settle_exc, settle_tup, settle_lst, settle_dct, settles_nil, settles_cons, $as,*] $[$l]?)
variable {n : Nat} {S : Sto}
def pTU (r : Rw) : Bool := decide (r.nm = "t") || decide (r.nm = "u")
def Rw.so2 : Rw → D
  | .unk _ k => k.d
  | _ => .non
section
variable {rs : List Rw} {m1 m2 lo hi : Int}
theorem WoB.tu (w : WoB rs m1 m2 lo hi) {r : Rw} (hr : r ∈ rs) (h : pTU r = true) : (r = .unk "t" (.table m1) ∨ r = .unk "u" (.table m2)) := by
  have q : ∀ {a b : PySem.Str}, a ≠ b → decide (a = b) = false := fun h => decide_eq_false h
  cases r with
  | unk nm k =>
    rcases w.unk hr with ⟨h1 | h1, rfl⟩ | ⟨h1 | h1, rfl⟩ | ⟨h1 | h1, rfl⟩ | ⟨rfl, rfl⟩ | ⟨rfl, rfl⟩
    · subst h1; exact absurd h (by decide)
    · subst h1; exact absurd h (by decide)
    · subst h1; exact absurd h (by decide)
    · subst h1; exact absurd h (by decide)
    · subst h1; exact absurd h (show ¬ (decide (("n" : PySem.Str) = "t") || decide (("n" : PySem.Str) = "u")) = true by decide)
    · subst h1; exact absurd h (show ¬ (decide (("m" : PySem.Str) = "t") || decide (("m" : PySem.Str) = "u")) = true by decide)
    · exact .inl rfl
    · exact .inr rfl
  | fun_ nm ps k =>
    obtain ⟨_, _, _, _, h1 | h1⟩ := w.fun_ hr
    · subst h1; exact absurd h (show ¬ (decide (("f" : PySem.Str) = "t") || decide (("f" : PySem.Str) = "u")) = true by decide)
    · subst h1; exact absurd h (show ¬ (decide (("g" : PySem.Str) = "t") || decide (("g" : PySem.Str) = "u")) = true by decide)
  | row nm a b =>
    obtain ⟨_, _, h1 | h1⟩ := w.row hr
    · subst h1; exact absurd h (show ¬ (decide (("a" : PySem.Str) = "t") || decide (("a" : PySem.Str) = "u")) = true by decide)
    · subst h1; exact absurd h (show ¬ (decide (("b" : PySem.Str) = "t") || decide (("b" : PySem.Str) = "u")) = true by decide)
theorem WoB.tuN (w : WoB rs m1 m2 lo hi) : (rs.filter pTU).length = 2 := by
  obtain ⟨f0, f1, g0, g1, g2, a0, a1, b0, b1, _, _, hp⟩ := w.ok
  rw [(hp.filter pTU).length_eq]
  rfl
/-- the list of sorts -/
theorem WoB.sorts (w : WoB rs m1 m2 lo hi) : ∃ ss : List So, ss.length = 4 ∧ (∀ s ∈ ss, s.okB m1 m2) ∧ [D.str "number", .str "number"] ++ (rs.filter pTU).map Rw.so2 = ss.map So.d := by
  refine ⟨[.num, .num] ++ (rs.filter pTU).map (fun r => match r with | .unk _ (.table k) => .tab k | _ => .num), ?_, fun s hs => ?_, ?_⟩
  · simp [w.tuN]
  · rcases List.mem_append.mp hs with hs | hs
    · have : s = .num := by simpa using hs
      exact .inl this
    · obtain ⟨r, hr, rfl⟩ := List.mem_map.mp hs
      obtain ⟨h1, h2⟩ := List.mem_filter.mp hr
      rcases w.tu h1 h2 with rfl | rfl
      · exact .inr (.inl rfl)
      · exact .inr (.inr rfl)
  · rw [List.map_append, List.map_map]
    congr 1
    refine List.map_congr_left fun r hr => ?_
    obtain ⟨h1, h2⟩ := List.mem_filter.mp hr
    rcases w.tu h1 h2 with rfl | rfl <;> rfl
theorem sos_pure (ss : List So) : pures (ss.map So.d) = true := pures_of fun d m => by
  obtain ⟨s, _, rfl⟩ := List.mem_map.mp m
  exact so_pure (some s)
structure LI (G : Sto) (sl : List D) (script : List Int) (rs : List Rw) (g : Nat) (ρ : Env) (Z : Sto) : Prop where
  ok : ∃ (l : Sto) (u4 u5 u6 : Option D), Z = G ++ (.lst sl :: l) ∧ Cl Z ∧ ρ = [some (.fz (script.map .int)), some (wd rs), some (.ref g), some (.ref G.length), u4, u5, u6, none]
theorem c_law {ns : List Int} (hl : ns.length ≤ 63) (hn : 90 ≤ n) : ∃ S', F (n + 1) 24 [.fz (ns.map .int)] [] = some (.ok (.bl true) S') := by
  obtain ⟨m, rfl⟩ : ∃ m, n = m + 40 := ⟨n - 40, by omega⟩
  have key : wpR (fun v _ => v = .bl true) (fun _ _ => False) (F (m + 40 + 1) 24 [.fz (ns.map .int)] []) := by
    refine e_law (c0 := .fz (ns.map .int)) (S' := []) (by simp only [settle_int, settle_str, settle_bl, settle_non, settle_ref, settle_fz, settle_exc, settle_tup, settle_lst, settle_dct, settles_nil, settles_cons]) ?_
    unfold b_law
    have hc0 : Cl [] := Cl.nil
    have q1 := c__law_cell_at (n := m + 39) (ns := ns) (k := 0) hc0
    have q2 := c_stream (n := m + 39) (m := 7) (c := ns.getD 0 0) (by decide) hc0
    obtain ⟨rs, m1, m2, lo, hi, w, q3⟩ := c__law_world (n := m + 38) (xs := strF (ns.getD 0 0) 7) hc0
    refine wp_then [some (.fz (ns.map .int)), some (wd rs), none, none, none, none, none, none] [] (fun Qn' q => by
      simp! only [wpB_nil]
      rw [show (D.int 0) = .int ((0 : Nat) : Int) from rfl, q1]
      simp! only [wpB_nil]
      rw [show (D.int 7) = .int ((7 : Nat) : Int) from rfl, q2]
      simp! only [q3, settles_rw]
      exact q) ?_
    have hok := w.rok
    have hnd := w.nd
    have q4 := c__law_cell_at (n := m + 39) (ns := ns) (k := 1) hc0
    have q5 := c_stream (n := m + 39) (m := 90) (c := ns.getD 1 0) (by decide) hc0
    have q6 := c__law_values (n := m + 35) (xs := strF (ns.getD 1 0) 90) hok hnd (by rw [w.len]; decide) hc0
    generalize hxs : strF (ns.getD 1 0) 90 = xs at q5 q6
    refine wp_then [some (.fz (ns.map .int)), some (wd rs), some (.ref (inL (ovS rs xs).1).length), none, none, none, none, none] (Gs rs xs) (fun Qn' q => by
      simp! only [wpB_nil]
      rw [show (D.int 1) = .int ((1 : Nat) : Int) from rfl, q4]
      simp! only [wpB_nil]
      rw [show (D.int 90) = .int ((90 : Nat) : Int) from rfl, q5]
      simp! only [q6, settle_val]
      exact q) ?_
    obtain ⟨ss, hs4, hsok, hse⟩ := w.sorts
    refine wp_then [some (.fz (ns.map .int)), some (wd rs), some (.ref (inL (ovS rs xs).1).length), some (.ref (Gs rs xs).length), none, none, none, none] (Gs rs xs ++ [.lst (ss.map So.d)]) (fun Qn' q => by
      simp! only [wpB_nil]
      refine wp_comp (fun j vs Z => vs = ((rs.take j).filter pTU).map Rw.so2 ∧ Gs rs xs = Z) ?_
      simp! only [wpB_nil]
      refine ⟨_, none, items_tup, pures_settled _ (rws_pure rs), ⟨rfl, rfl⟩, fun _ _ _ _ => trivial, ?_, ?_⟩
      · rintro j y vs Z hd ⟨rfl, rfl⟩
        rw [List.getElem?_map] at hd
        obtain ⟨r, hr, rfl⟩ := Option.map_eq_some_iff.mp hd
        have hrm := List.mem_of_getElem? hr
        rw [filt_succ hr]
        have hin : ∀ {S}, cmpE S .in_ (.str r.nm) (.tup [.str "t", .str "u"]) = some (pTU r) := fun {S} => by
          rw [cmp_in, in_tup rfl (by simp [D.depth]) rfl]
          simp [D.eqv, pTU, eq_comm]
        simp! only [ix1, hin]
        refine wpT_i (fun h => ?_) fun h => ?_
        · have i2 : ∀ {S}, idxE S r.d (.int 2) = some r.so2 := fun {S} => by
            rcases w.tu hrm h with rfl | rfl <;> rfl
          simp! only [i2]
          simp [h]
        · simp [h]
      · rintro vs Z ⟨rfl, rfl⟩
        rw [List.length_map, List.take_length]
        have hlen : ((rs.filter pTU).map Rw.so2).length = 2 := by rw [List.length_map, w.tuN]
        rw [add_l (by rw [hlen]; decide)]
        simp! only [wpB_nil]
        rw [hse]
        simp only [settles_pure _ _ (sos_pure ss)]
        exact q) ?_
    generalize hG : Gs rs xs = G
    have cl0 : Cl (G ++ [.lst (ss.map So.d)]) := by rw [← hG]; exact Gs_cl.lst (sos_pure ss)
    have he6 : ∀ {l : Sto}, Cl (G ++ l) → E6 rs (lkF rs xs) (inL (ovS rs xs).1).length (G ++ l) := fun {l} h => by
      rw [← hG] at h ⊢; exact Gs_e6 hok hnd h
    rw [wpB_cons]
    refine wp_for (fun k ρ Z => LI G (ss.map So.d) ns rs (inL (ovS rs xs).1).length ρ Z) ?_
    have hlen0 : ∀ {S}, bltE S .len [.fz (ns.map .int)] = some (.int ns.length) := fun {S} => by rw [len_seq (ds := ns.map .int) rfl]; simp
    simp! only [hlen0]
    refine ⟨_, none, items_r1 (by split <;> (try split) <;> omega) (by split <;> (try split) <;> omega), rng_settled, ⟨[], none, none, none, rfl, cl0, rfl⟩, fun _ _ _ _ => trivial, ?_, ?_⟩
    · rintro k y ρ Z hd ⟨l, u4, u5, u6, rfl, hcl, rfl⟩
      obtain ⟨rfl, hk⟩ := rng_at hd
      have c1 := c__law_cell_at (n := m + 39) (ns := ns) (k := 2 + k) hcl
      have c2 := c_stream (n := m + 39) (m := 80) (c := ns.getD (2 + k) 0 + (k : Int)) (by decide) hcl
      have ck : ((2 + k : Nat) : Int) = 2 + (k : Int) := by omega
      rw [ck] at c1
      generalize strF (ns.getD (2 + k) 0 + (k : Int)) 80 = ys at c2
      refine wp_then [some (.fz (ns.map .int)), some (wd rs), some (.ref (inL (ovS rs xs).1).length), some (.ref G.length), some (.int k), some (.ref (G ++ (.lst (ss.map So.d) :: l)).length), u6, none] (G ++ (.lst (ss.map So.d) :: l) ++ [.lst (ys.map .int)]) (fun Qn' q => by
        simp! only [c1]
        rw [show (D.int 80) = .int ((80 : Nat) : Int) from rfl, c2]
        simp! only [settles_pure _ _ (ints_pure ys)]
        exact q) ?_
      have hcl2 : Cl (G ++ (.lst (ss.map So.d) :: l) ++ [.lst (ys.map .int)]) := hcl.lst (ints_pure ys)
      generalize hT : G ++ (D.lst (ss.map So.d) :: l) = T at hcl hcl2
      have hgi : (T ++ [D.lst (ys.map .int)])[T.length]? = some (.lst (ys.map .int)) := by simp
      have tk1 := c_take (n := m + 39) hcl2 hgi
      have hcl3 : Cl (T ++ [D.lst ((tr ys).map .int)]) := hcl.lst (ints_pure _)
      rw [set_app0] at tk1
      have hgs : (T ++ [D.lst ((tr ys).map .int)])[G.length]? = some (.lst (ss.map So.d)) := by rw [← hT, List.append_assoc, get_app0]; rfl
      have b4 := fmod_bd (i := tk ys) (j := 4) (by decide)
      obtain ⟨s, hss, hsm⟩ : ∃ s, Ev.atI (ss.map So.d) ((tk ys).fmod 4) = some (So.d s) ∧ s ∈ ss := by
        obtain ⟨x, e1, e2⟩ := atI_ok (xs := ss.map So.d) b4.1 (by rw [List.length_map, hs4]; exact b4.2)
        obtain ⟨s, h1, rfl⟩ := List.mem_map.mp e2
        exact ⟨s, e1, h1⟩
      obtain ⟨t, zs, ht, et⟩ := c_terms w 4 (m + 40) (T ++ [D.lst ((tr ys).map .int)]) T.length (tr ys) s (by omega) (hsok s hsm) hcl3 (by simp)
      rw [set_app0] at et
      have hcl4 : Cl (T ++ [D.lst (zs.map .int)]) := hcl.lst (ints_pure _)
      have et' : F (m + 40) 20 [wd rs, s.d, .int 4, .ref T.length] (T ++ [D.lst ((tr ys).map .int)]) = some (.ok t.d (T ++ [D.lst (zs.map .int)])) := et
      refine wp_then [some (.fz (ns.map .int)), some (wd rs), some (.ref (inL (ovS rs xs).1).length), some (.ref G.length), some (.int k), some (.ref T.length), some t.d, none] (T ++ [.lst (zs.map .int)]) (fun Qn' q => by
        simp! only [tk1, idx_ref hgs, hss, et', trm_settle]
        exact q) ?_
      have hT2 : T ++ [D.lst (zs.map .int)] = G ++ (D.lst (ss.map So.d) :: (l ++ [.lst (zs.map .int)])) := by rw [← hT, List.append_assoc]; rfl
      have e6 : E6 rs (lkF rs xs) (inL (ovS rs xs).1).length (T ++ [D.lst (zs.map .int)]) := by
        rw [hT2] at hcl4 ⊢; exact he6 hcl4
      have v1 := c_value_of e6 4 (by decide) t s (m + 40) ht (by omega)
      have v2 := c__law_due e6 4 (by decide) t s (m + 40) ht (by omega)
      have v3 := c__law_right (n := m + 39) (evT_ok e6.ty t s 4 ht) hcl4
      simp! only [v1, v2, v3]
      exact ⟨l ++ [.lst (zs.map .int)], _, _, _, hT2, hcl4, rfl⟩
    · rintro ρ Z ⟨l, u4, u5, u6, rfl, hcl, rfl⟩
      have c1 := c__law_cell_at (n := m + 39) (ns := ns) (k := 1) hcl
      have c2 := c_stream (n := m + 39) (m := 90) (c := ns.getD 1 0) (by decide) hcl
      have c3 := c__law_values (n := m + 35) (xs := xs) hok hnd (by rw [w.len]; decide) hcl
      rw [hxs] at c2
      have eq := eq_given (rs := rs) (xs := xs) (l := .lst (ss.map So.d) :: l)
      rw [hG] at eq
      simp! only [wpB_nil]
      rw [show (D.int 1) = .int ((1 : Nat) : Int) from rfl, c1]
      simp! only [wpB_nil]
      rw [show (D.int 90) = .int ((90 : Nat) : Int) from rfl, c2]
      simp only [wpE_call, wpR_ok, wpE_cmp, wpE_var, getV_0, getV_s, wpEs_cons, wpEs_nil, c3, wpO_some, g0_F, eq]
      have lv := leave_pure (S := []) (l := G ++ (.lst (ss.map So.d) :: l)) (d := .bl true) Cl.nil rfl
      rw [List.nil_append] at lv
      rw [lv, wpR_ok]
  obtain ⟨v, S', e, rfl⟩ := wpR_out key
  exact ⟨S', e⟩
end
end Pg
end
section
set_option Elab.async false
set_option linter.all false
set_option maxRecDepth 100000
set_option maxHeartbeats 0
namespace Hd
open PySem PySem.Spec PyProof.Rows L2 Ev
def top (i : Nat) : Stmt := PySem.Challenge.pw_threeproofs_k06_values_of_terms.main.body.getD i (.Pass ⟨0, 0, 0, 0⟩)
def mk (x : Str) (i : Nat) : He.DefD := ⟨(x, none), x, x, defArgs (top i), defBody (top i), defScope (top i), [], []⟩
def ro (f : Fn) (x : Str) (N : List Str) (i : Nat) : Ev.Row := ⟨f, x, N, defArgs (top i), defBody (top i), defScope (top i)⟩
def r0 : Ev.Row := ro ⟨2, 4, Pg.b_divisor_of⟩ "divisor_of" Pg.n_divisor_of 1
def r1 : Ev.Row := ro ⟨2, 3, Pg.b_reduced⟩ "reduced" Pg.n_reduced 3
def r2 : Ev.Row := ro ⟨2, 2, Pg.b_sum_of_two⟩ "sum_of_two" Pg.n_sum_of_two 4
def r3 : Ev.Row := ro ⟨3, 5, Pg.b_sum_value⟩ "sum_value" Pg.n_sum_value 5
def r4 : Ev.Row := ro ⟨2, 4, Pg.b_looked_up⟩ "looked_up" Pg.n_looked_up 6
def r5 : Ev.Row := ro ⟨4, 4, Pg.b_word_at⟩ "word_at" Pg.n_word_at 7
def r6 : Ev.Row := ro ⟨3, 7, Pg.b_value_of⟩ "value_of" Pg.n_value_of 8
def r7 : Ev.Row := ro ⟨2, 2, Pg.b__law_cell_at⟩ "_law_cell_at" Pg.n__law_cell_at 10
def r8 : Ev.Row := ro ⟨2, 8, Pg.b__law_stream⟩ "_law_stream" Pg.n__law_stream 11
def r9 : Ev.Row := ro ⟨1, 1, Pg.b__law_take⟩ "_law_take" Pg.n__law_take 12
def r10 : Ev.Row := ro ⟨1, 8, Pg.b__law_world⟩ "_law_world" Pg.n__law_world 13
def r11 : Ev.Row := ro ⟨2, 2, Pg.b__law_divisor⟩ "_law_divisor" Pg.n__law_divisor 14
def r12 : Ev.Row := ro ⟨2, 3, Pg.b__law_reduced⟩ "_law_reduced" Pg.n__law_reduced 15
def r13 : Ev.Row := ro ⟨2, 3, Pg.b__law_value⟩ "_law_value" Pg.n__law_value 16
def r14 : Ev.Row := ro ⟨3, 7, Pg.b__law_entries⟩ "_law_entries" Pg.n__law_entries 17
def r15 : Ev.Row := ro ⟨2, 4, Pg.b__law_values⟩ "_law_values" Pg.n__law_values 18
def r16 : Ev.Row := ro ⟨1, 1, Pg.b__law_sort⟩ "_law_sort" Pg.n__law_sort 19
def r17 : Ev.Row := ro ⟨3, 8, Pg.b__law_leaf⟩ "_law_leaf" Pg.n__law_leaf 20
def r18 : Ev.Row := ro ⟨4, 7, Pg.b__law_row_term⟩ "_law_row_term" Pg.n__law_row_term 21
def r19 : Ev.Row := ro ⟨4, 8, Pg.b__law_called⟩ "_law_called" Pg.n__law_called 22
def r20 : Ev.Row := ro ⟨4, 7, Pg.b__law_term⟩ "_law_term" Pg.n__law_term 23
def r21 : Ev.Row := ro ⟨2, 8, Pg.b__law_due⟩ "_law_due" Pg.n__law_due 24
def r22 : Ev.Row := ro ⟨3, 5, Pg.b__law_word⟩ "_law_word" Pg.n__law_word 25
def r23 : Ev.Row := ro ⟨2, 3, Pg.b__law_right⟩ "_law_right" Pg.n__law_right 26
def r24 : Ev.Row := ro ⟨1, 8, Pg.b_law⟩ "law" Pg.n_law 27
def rows : List Ev.Row := ([r0, r1, r2, r3, r4, r5, r6, r7, r8, r9, r10, r11] : List Ev.Row) ++ ([r12, r13, r14, r15, r16, r17, r18, r19, r20, r21, r22, r23] : List Ev.Row) ++ ([r24] : List Ev.Row)
def fn : List He.DefD := ([mk "divisor_of" 1, mk "reduced" 3, mk "sum_of_two" 4, mk "sum_value" 5, mk "looked_up" 6, mk "word_at" 7, mk "value_of" 8, mk "_law_cell_at" 10, mk "_law_stream" 11, mk "_law_take" 12, mk "_law_world" 13, mk "_law_divisor" 14] : List He.DefD) ++ ([mk "_law_reduced" 15, mk "_law_value" 16, mk "_law_entries" 17, mk "_law_values" 18, mk "_law_sort" 19, mk "_law_leaf" 20, mk "_law_row_term" 21, mk "_law_called" 22, mk "_law_term" 23, mk "_law_due" 24, mk "_law_word" 25, mk "_law_right" 26] : List He.DefD) ++ ([mk "law" 27] : List He.DefD)
def consts : List (Str × D) := []
def cn : List Str := ([] : List PySem.Str)
def txt : Txt0 := ⟨rows, ([] : List PySem.Str), consts⟩
theorem chk : rows.all (chkRow txt) = true := by kernel_rfl
theorem chk_all : ∀ r ∈ txt.rows, chkRow txt r = true := List.all_eq_true.mp chk
theorem fns_eq : txt.fns = Pg.fns := rfl
def fa : List He.Fa := ([.glo "divisor_of", .glo "reduced", .glo "sum_of_two", .glo "sum_value", .glo "looked_up", .glo "word_at", .glo "value_of", .glo "_law_cell_at", .glo "_law_stream", .glo "_law_take", .glo "_law_world", .glo "_law_divisor"] : List He.Fa) ++ ([.glo "_law_reduced", .glo "_law_value", .glo "_law_entries", .glo "_law_values", .glo "_law_sort", .glo "_law_leaf", .glo "_law_row_term", .glo "_law_called", .glo "_law_term", .glo "_law_due", .glo "_law_word", .glo "_law_right"] : List He.Fa) ++ ([.glo "law", .free "len", .free "abs", .free "min", .free "max", .free "sum", .free "sorted", .free "tuple", .free "list", .free "int", .free "str", .free "isinstance"] : List He.Fa) ++ ([.free "range", .free "zip", .free "dict", .free "bool", .free "ValueError", .free "enumerate"] : List He.Fa)
abbrev R : PySem.W.OpenRow := PySem.W.OpenLaw.row PySem.Challenge.rw_threeproofs_k06_values_of_terms
abbrev hk : PySem.W.Hook := He.hookD 4 fa fn
def ob (s : PySem.W.SharedT) : He.AlD := He.obsDG 4 fa fn (HandSHeadRun.getT s)
theorem ob_eq (s : PySem.W.SharedT) : ob s = hk.obs s.abs := He.obsDG_eq (HandSHeadRun.getT_eq s)
def loose : List Str := (["divisor_of", "reduced", "sum_of_two", "sum_value", "looked_up", "word_at", "value_of", "_law_cell_at", "_law_stream", "_law_take", "_law_world", "_law_divisor"] : List PySem.Str) ++ (["_law_reduced", "_law_value", "_law_entries", "_law_values", "_law_sort", "_law_leaf", "_law_row_term", "_law_called", "_law_term", "_law_due", "_law_word", "_law_right"] : List PySem.Str)
theorem run (w : World) : HandSHeadRun.RunEq R (PySem.W.view R.prog [27]) hk ob 8000 loose w := by
  intro os
  kernel_rfl
section
variable {P : Program} {w : World} {K : PySem.W.Frag} {h : Heap} {mg : Str → Option Value}
def FunsP (K : PySem.W.Frag) (mg : Str → Option Value) (r : Ev.Row) : Prop := ∃ addr fd, mg r.nm = some (.ref addr) ∧ FunD K r.nm r.nm r.params r.body r.scope [] [] addr fd ∧ Binds K fd r.ps []
theorem f0 (X : K.In h) (G : h.Ns mainGlobals mg) (c : He.SaysD fa fn K) : FunsP K mg r0 := by
  obtain ⟨fd, F⟩ := c.def_ 0 (d := mk "divisor_of" 1) rfl
  exact ⟨_, fd, He.glo_ok X G (c.fact 0 (f := .glo "divisor_of") rfl), F, FunD.bindsN (ps := ["one", "other"]) F fun _ _ _ _ _ _ us hl => match us, hl with | [_, _], _ => rfl⟩
theorem f1 (X : K.In h) (G : h.Ns mainGlobals mg) (c : He.SaysD fa fn K) : FunsP K mg r1 := by
  obtain ⟨fd, F⟩ := c.def_ 1 (d := mk "reduced" 3) rfl
  exact ⟨_, fd, He.glo_ok X G (c.fact 1 (f := .glo "reduced") rfl), F, FunD.bindsN (ps := ["top", "bottom"]) F fun _ _ _ _ _ _ us hl => match us, hl with | [_, _], _ => rfl⟩
theorem f2 (X : K.In h) (G : h.Ns mainGlobals mg) (c : He.SaysD fa fn K) : FunsP K mg r2 := by
  obtain ⟨fd, F⟩ := c.def_ 2 (d := mk "sum_of_two" 4) rfl
  exact ⟨_, fd, He.glo_ok X G (c.fact 2 (f := .glo "sum_of_two") rfl), F, FunD.bindsN (ps := ["one", "other"]) F fun _ _ _ _ _ _ us hl => match us, hl with | [_, _], _ => rfl⟩
theorem f3 (X : K.In h) (G : h.Ns mainGlobals mg) (c : He.SaysD fa fn K) : FunsP K mg r3 := by
  obtain ⟨fd, F⟩ := c.def_ 3 (d := mk "sum_value" 5) rfl
  exact ⟨_, fd, He.glo_ok X G (c.fact 3 (f := .glo "sum_value") rfl), F, FunD.bindsN (ps := ["world", "values", "terms"]) F fun _ _ _ _ _ _ us hl => match us, hl with | [_, _, _], _ => rfl⟩
theorem f4 (X : K.In h) (G : h.Ns mainGlobals mg) (c : He.SaysD fa fn K) : FunsP K mg r4 := by
  obtain ⟨fd, F⟩ := c.def_ 4 (d := mk "looked_up" 6) rfl
  exact ⟨_, fd, He.glo_ok X G (c.fact 4 (f := .glo "looked_up") rfl), F, FunD.bindsN (ps := ["entries_and_default", "key"]) F fun _ _ _ _ _ _ us hl => match us, hl with | [_, _], _ => rfl⟩
theorem f5 (X : K.In h) (G : h.Ns mainGlobals mg) (c : He.SaysD fa fn K) : FunsP K mg r5 := by
  obtain ⟨fd, F⟩ := c.def_ 5 (d := mk "word_at" 7) rfl
  exact ⟨_, fd, He.glo_ok X G (c.fact 5 (f := .glo "word_at") rfl), F, FunD.bindsN (ps := ["world", "values", "row", "place"]) F fun _ _ _ _ _ _ us hl => match us, hl with | [_, _, _, _], _ => rfl⟩
theorem f6 (X : K.In h) (G : h.Ns mainGlobals mg) (c : He.SaysD fa fn K) : FunsP K mg r6 := by
  obtain ⟨fd, F⟩ := c.def_ 6 (d := mk "value_of" 8) rfl
  exact ⟨_, fd, He.glo_ok X G (c.fact 6 (f := .glo "value_of") rfl), F, FunD.bindsN (ps := ["world", "values", "term"]) F fun _ _ _ _ _ _ us hl => match us, hl with | [_, _, _], _ => rfl⟩
theorem f7 (X : K.In h) (G : h.Ns mainGlobals mg) (c : He.SaysD fa fn K) : FunsP K mg r7 := by
  obtain ⟨fd, F⟩ := c.def_ 7 (d := mk "_law_cell_at" 10) rfl
  exact ⟨_, fd, He.glo_ok X G (c.fact 7 (f := .glo "_law_cell_at") rfl), F, FunD.bindsN (ps := ["_law_script", "_law_k"]) F fun _ _ _ _ _ _ us hl => match us, hl with | [_, _], _ => rfl⟩
theorem f8 (X : K.In h) (G : h.Ns mainGlobals mg) (c : He.SaysD fa fn K) : FunsP K mg r8 := by
  obtain ⟨fd, F⟩ := c.def_ 8 (d := mk "_law_stream" 11) rfl
  exact ⟨_, fd, He.glo_ok X G (c.fact 8 (f := .glo "_law_stream") rfl), F, FunD.bindsN (ps := ["_law_cell", "_law_many"]) F fun _ _ _ _ _ _ us hl => match us, hl with | [_, _], _ => rfl⟩
theorem f9 (X : K.In h) (G : h.Ns mainGlobals mg) (c : He.SaysD fa fn K) : FunsP K mg r9 := by
  obtain ⟨fd, F⟩ := c.def_ 9 (d := mk "_law_take" 12) rfl
  exact ⟨_, fd, He.glo_ok X G (c.fact 9 (f := .glo "_law_take") rfl), F, FunD.bindsN (ps := ["_law_xs"]) F fun _ _ _ _ _ _ us hl => match us, hl with | [_], _ => rfl⟩
theorem f10 (X : K.In h) (G : h.Ns mainGlobals mg) (c : He.SaysD fa fn K) : FunsP K mg r10 := by
  obtain ⟨fd, F⟩ := c.def_ 10 (d := mk "_law_world" 13) rfl
  exact ⟨_, fd, He.glo_ok X G (c.fact 10 (f := .glo "_law_world") rfl), F, FunD.bindsN (ps := ["_law_xs"]) F fun _ _ _ _ _ _ us hl => match us, hl with | [_], _ => rfl⟩
theorem f11 (X : K.In h) (G : h.Ns mainGlobals mg) (c : He.SaysD fa fn K) : FunsP K mg r11 := by
  obtain ⟨fd, F⟩ := c.def_ 11 (d := mk "_law_divisor" 14) rfl
  exact ⟨_, fd, He.glo_ok X G (c.fact 11 (f := .glo "_law_divisor") rfl), F, FunD.bindsN (ps := ["_law_one", "_law_other"]) F fun _ _ _ _ _ _ us hl => match us, hl with | [_, _], _ => rfl⟩
theorem f12 (X : K.In h) (G : h.Ns mainGlobals mg) (c : He.SaysD fa fn K) : FunsP K mg r12 := by
  obtain ⟨fd, F⟩ := c.def_ 12 (d := mk "_law_reduced" 15) rfl
  exact ⟨_, fd, He.glo_ok X G (c.fact 12 (f := .glo "_law_reduced") rfl), F, FunD.bindsN (ps := ["_law_top", "_law_bottom"]) F fun _ _ _ _ _ _ us hl => match us, hl with | [_, _], _ => rfl⟩
theorem f13 (X : K.In h) (G : h.Ns mainGlobals mg) (c : He.SaysD fa fn K) : FunsP K mg r13 := by
  obtain ⟨fd, F⟩ := c.def_ 13 (d := mk "_law_value" 16) rfl
  exact ⟨_, fd, He.glo_ok X G (c.fact 13 (f := .glo "_law_value") rfl), F, FunD.bindsN (ps := ["_law_kind", "_law_number"]) F fun _ _ _ _ _ _ us hl => match us, hl with | [_, _], _ => rfl⟩
theorem f14 (X : K.In h) (G : h.Ns mainGlobals mg) (c : He.SaysD fa fn K) : FunsP K mg r14 := by
  obtain ⟨fd, F⟩ := c.def_ 14 (d := mk "_law_entries" 17) rfl
  exact ⟨_, fd, He.glo_ok X G (c.fact 14 (f := .glo "_law_entries") rfl), F, FunD.bindsN (ps := ["_law_places", "_law_kind", "_law_xs"]) F fun _ _ _ _ _ _ us hl => match us, hl with | [_, _, _], _ => rfl⟩
theorem f15 (X : K.In h) (G : h.Ns mainGlobals mg) (c : He.SaysD fa fn K) : FunsP K mg r15 := by
  obtain ⟨fd, F⟩ := c.def_ 15 (d := mk "_law_values" 18) rfl
  exact ⟨_, fd, He.glo_ok X G (c.fact 15 (f := .glo "_law_values") rfl), F, FunD.bindsN (ps := ["_law_world_here", "_law_xs"]) F fun _ _ _ _ _ _ us hl => match us, hl with | [_, _], _ => rfl⟩
theorem f16 (X : K.In h) (G : h.Ns mainGlobals mg) (c : He.SaysD fa fn K) : FunsP K mg r16 := by
  obtain ⟨fd, F⟩ := c.def_ 16 (d := mk "_law_sort" 19) rfl
  exact ⟨_, fd, He.glo_ok X G (c.fact 16 (f := .glo "_law_sort") rfl), F, FunD.bindsN (ps := ["_law_kind"]) F fun _ _ _ _ _ _ us hl => match us, hl with | [_], _ => rfl⟩
theorem f17 (X : K.In h) (G : h.Ns mainGlobals mg) (c : He.SaysD fa fn K) : FunsP K mg r17 := by
  obtain ⟨fd, F⟩ := c.def_ 17 (d := mk "_law_leaf" 20) rfl
  exact ⟨_, fd, He.glo_ok X G (c.fact 17 (f := .glo "_law_leaf") rfl), F, FunD.bindsN (ps := ["_law_world_here", "_law_sort_here", "_law_xs"]) F fun _ _ _ _ _ _ us hl => match us, hl with | [_, _, _], _ => rfl⟩
theorem f18 (X : K.In h) (G : h.Ns mainGlobals mg) (c : He.SaysD fa fn K) : FunsP K mg r18 := by
  obtain ⟨fd, F⟩ := c.def_ 18 (d := mk "_law_row_term" 21) rfl
  exact ⟨_, fd, He.glo_ok X G (c.fact 18 (f := .glo "_law_row_term") rfl), F, FunD.bindsN (ps := ["_law_world_here", "_law_row", "_law_deep", "_law_xs"]) F fun _ _ _ _ _ _ us hl => match us, hl with | [_, _, _, _], _ => rfl⟩
theorem f19 (X : K.In h) (G : h.Ns mainGlobals mg) (c : He.SaysD fa fn K) : FunsP K mg r19 := by
  obtain ⟨fd, F⟩ := c.def_ 19 (d := mk "_law_called" 22) rfl
  exact ⟨_, fd, He.glo_ok X G (c.fact 19 (f := .glo "_law_called") rfl), F, FunD.bindsN (ps := ["_law_world_here", "_law_sort_here", "_law_deep", "_law_xs"]) F fun _ _ _ _ _ _ us hl => match us, hl with | [_, _, _, _], _ => rfl⟩
theorem f20 (X : K.In h) (G : h.Ns mainGlobals mg) (c : He.SaysD fa fn K) : FunsP K mg r20 := by
  obtain ⟨fd, F⟩ := c.def_ 20 (d := mk "_law_term" 23) rfl
  exact ⟨_, fd, He.glo_ok X G (c.fact 20 (f := .glo "_law_term") rfl), F, FunD.bindsN (ps := ["_law_world_here", "_law_sort_here", "_law_deep", "_law_xs"]) F fun _ _ _ _ _ _ us hl => match us, hl with | [_, _, _, _], _ => rfl⟩
theorem f21 (X : K.In h) (G : h.Ns mainGlobals mg) (c : He.SaysD fa fn K) : FunsP K mg r21 := by
  obtain ⟨fd, F⟩ := c.def_ 21 (d := mk "_law_due" 24) rfl
  exact ⟨_, fd, He.glo_ok X G (c.fact 21 (f := .glo "_law_due") rfl), F, FunD.bindsN (ps := ["_law_values_here", "_law_term_here"]) F fun _ _ _ _ _ _ us hl => match us, hl with | [_, _], _ => rfl⟩
theorem f22 (X : K.In h) (G : h.Ns mainGlobals mg) (c : He.SaysD fa fn K) : FunsP K mg r22 := by
  obtain ⟨fd, F⟩ := c.def_ 22 (d := mk "_law_word" 25) rfl
  exact ⟨_, fd, He.glo_ok X G (c.fact 22 (f := .glo "_law_word") rfl), F, FunD.bindsN (ps := ["_law_values_here", "_law_row", "_law_place"]) F fun _ _ _ _ _ _ us hl => match us, hl with | [_, _, _], _ => rfl⟩
theorem f23 (X : K.In h) (G : h.Ns mainGlobals mg) (c : He.SaysD fa fn K) : FunsP K mg r23 := by
  obtain ⟨fd, F⟩ := c.def_ 23 (d := mk "_law_right" 26) rfl
  exact ⟨_, fd, He.glo_ok X G (c.fact 23 (f := .glo "_law_right") rfl), F, FunD.bindsN (ps := ["_law_found", "_law_due_here"]) F fun _ _ _ _ _ _ us hl => match us, hl with | [_, _], _ => rfl⟩
theorem f24 (X : K.In h) (G : h.Ns mainGlobals mg) (c : He.SaysD fa fn K) : FunsP K mg r24 := by
  obtain ⟨fd, F⟩ := c.def_ 24 (d := mk "law" 27) rfl
  exact ⟨_, fd, He.glo_ok X G (c.fact 24 (f := .glo "law") rfl), F, FunD.bindsN (ps := ["_law_script"]) F fun _ _ _ _ _ _ us hl => match us, hl with | [_], _ => rfl⟩
theorem funs (X : K.In h) (G : h.Ns mainGlobals mg) (c : He.SaysD fa fn K) : ∀ r ∈ rows, FunsP K mg r := (List.forall_mem_append.mpr ⟨(List.forall_mem_append.mpr ⟨(List.forall_mem_cons.mpr ⟨(f0 X G c), List.forall_mem_cons.mpr ⟨(f1 X G c), List.forall_mem_cons.mpr ⟨(f2 X G c), List.forall_mem_cons.mpr ⟨(f3 X G c), List.forall_mem_cons.mpr ⟨(f4 X G c), List.forall_mem_cons.mpr ⟨(f5 X G c), List.forall_mem_cons.mpr ⟨(f6 X G c), List.forall_mem_cons.mpr ⟨(f7 X G c), List.forall_mem_cons.mpr ⟨(f8 X G c), List.forall_mem_cons.mpr ⟨(f9 X G c), List.forall_mem_cons.mpr ⟨(f10 X G c), List.forall_mem_cons.mpr ⟨(f11 X G c), (fun _ h => nomatch h)⟩⟩⟩⟩⟩⟩⟩⟩⟩⟩⟩⟩), List.forall_mem_cons.mpr ⟨(f12 X G c), List.forall_mem_cons.mpr ⟨(f13 X G c), List.forall_mem_cons.mpr ⟨(f14 X G c), List.forall_mem_cons.mpr ⟨(f15 X G c), List.forall_mem_cons.mpr ⟨(f16 X G c), List.forall_mem_cons.mpr ⟨(f17 X G c), List.forall_mem_cons.mpr ⟨(f18 X G c), List.forall_mem_cons.mpr ⟨(f19 X G c), List.forall_mem_cons.mpr ⟨(f20 X G c), List.forall_mem_cons.mpr ⟨(f21 X G c), List.forall_mem_cons.mpr ⟨(f22 X G c), List.forall_mem_cons.mpr ⟨(f23 X G c), (fun _ h => nomatch h)⟩⟩⟩⟩⟩⟩⟩⟩⟩⟩⟩⟩⟩), List.forall_mem_cons.mpr ⟨(f24 X G c), (fun _ h => nomatch h)⟩⟩)
theorem free (X : K.In h) (G : h.Ns mainGlobals mg) (c : He.SaysD fa fn K) : ∀ x ∈ bltNames, mg x = none := List.forall_mem_cons.mpr ⟨(He.free_ok X G (c.fact 25 (f := .free "len") rfl)), List.forall_mem_cons.mpr ⟨(He.free_ok X G (c.fact 26 (f := .free "abs") rfl)), List.forall_mem_cons.mpr ⟨(He.free_ok X G (c.fact 27 (f := .free "min") rfl)), List.forall_mem_cons.mpr ⟨(He.free_ok X G (c.fact 28 (f := .free "max") rfl)), List.forall_mem_cons.mpr ⟨(He.free_ok X G (c.fact 29 (f := .free "sum") rfl)), List.forall_mem_cons.mpr ⟨(He.free_ok X G (c.fact 30 (f := .free "sorted") rfl)), List.forall_mem_cons.mpr ⟨(He.free_ok X G (c.fact 31 (f := .free "tuple") rfl)), List.forall_mem_cons.mpr ⟨(He.free_ok X G (c.fact 32 (f := .free "list") rfl)), List.forall_mem_cons.mpr ⟨(He.free_ok X G (c.fact 33 (f := .free "int") rfl)), List.forall_mem_cons.mpr ⟨(He.free_ok X G (c.fact 34 (f := .free "str") rfl)), List.forall_mem_cons.mpr ⟨(He.free_ok X G (c.fact 35 (f := .free "isinstance") rfl)), List.forall_mem_cons.mpr ⟨(He.free_ok X G (c.fact 36 (f := .free "range") rfl)), List.forall_mem_cons.mpr ⟨(He.free_ok X G (c.fact 37 (f := .free "zip") rfl)), List.forall_mem_cons.mpr ⟨(He.free_ok X G (c.fact 38 (f := .free "dict") rfl)), List.forall_mem_cons.mpr ⟨(He.free_ok X G (c.fact 39 (f := .free "bool") rfl)), List.forall_mem_cons.mpr ⟨(He.free_ok X G (c.fact 40 (f := .free "ValueError") rfl)), List.forall_mem_cons.mpr ⟨(He.free_ok X G (c.fact 41 (f := .free "enumerate") rfl)), (fun _ h => nomatch h)⟩⟩⟩⟩⟩⟩⟩⟩⟩⟩⟩⟩⟩⟩⟩⟩⟩
theorem con (X : K.In h) (G : h.Ns mainGlobals mg) (c : He.SaysD fa fn K) : ∀ (x : Str) (d : D), consts.lookup x = some d → ∃ u v, mg x = some u ∧ RelV v u ∧ scalV d v := by
  intro x d e
  simp only [consts, List.lookup_cons, List.lookup_nil] at e
  cases e
theorem stands (X : K.In h) (G : h.Ns mainGlobals mg) (c : He.SaysD fa fn K) : Stands P w K mg (fun _ => 0) (fun _ _ => false) txt :=
  ⟨⟨fun _ h => absurd rfl h, fun _ _ h => absurd rfl h, fun _ h => absurd rfl h, fun _ h => absurd rfl h, fun _ _ h => absurd rfl h⟩, fun c x h => (by simp [txt, cn] at h), con X G c, free X G c, fun f r h => funs X G c r (List.mem_of_getElem? h)⟩
theorem facts {f : Addr} (n : Nat) (X : K.In h) (G : h.Ns mainGlobals mg) (hfa : mg ("law" : Str) = some (.ref f)) (c : He.SaysD fa fn K) :
    ∃ fd : FuncData, (∀ (s : Shared) (v : Value), BindsTo s fd ⟨[v], []⟩ [("_law_script", v)]) ∧ ∀ base : Heap, FnOk P w K mg base (L2.CX P w) n f fd r24.ps (spF ⟨K, w, (fun _ => 0)⟩ (callN Pg.fns (fun _ _ => false) n 24)) := by
  obtain ⟨fd, F⟩ := (c).def_ 24 (d := mk "law" 27) rfl
  have e := hfa.symm.trans (He.glo_ok X G ((c).fact 24 (f := .glo "law") rfl))
  cases e
  have b := FunD.bindsA (ps := ["_law_script"]) F fun _ _ _ _ _ _ us hl => match us, hl with | [_], _ => rfl
  exact ⟨fd, fun s v => b s [v] rfl, fun base => fns_eq ▸ fns_ok (base := base) (stands X G c) chk_all n 24 r24 rfl _ fd F⟩
end
end Hd
open PySem PySem.W PySem.Calls PyProof.Rows
theorem holds_of (HH : ∀ ns : List Int, ns.length ≤ 63 → ∃ S', Ev.callN Pg.fns (fun _ _ => false) 100 24 [.fz (ns.map .int)] [] = some (.ok (.bl true) S')) : PySem.Challenge.rw_threeproofs_k06_values_of_terms.Holds := by
  w_on; o_law
  refine HandSHeadRun.head_any (r := OpenLaw.row PySem.Challenge.rw_threeproofs_k06_values_of_terms) (q := view (OpenLaw.row PySem.Challenge.rw_threeproofs_k06_values_of_terms).prog [27]) (H := Hd.hk) (ob := Hd.ob) (M := 8000) (loose := Hd.loose) (d := HandSHeadRun.topDef (OpenLaw.row PySem.Challenge.rw_threeproofs_k06_values_of_terms).prog 27) (kwd := []) Hd.ob_eq
    (by kernel_rfl) (fun s => by kernel_rfl) Hd.run (by kernel_rfl) (by kernel_rfl) (by kernel_rfl) (by rfl) (by first | assumption | decide +kernel) (by decide +kernel) ⟨rfl, rfl, rfl, rfl, rfl, by decide +kernel⟩ ?hw ?hc
  case hw => w_witness2
  case hc =>
    refine L2.walk_ofE (l := PySem.Challenge.rw_threeproofs_k06_values_of_terms) (n := 63) (k := 100) (x := "_law_script") (CX := L2.CX0) rfl (by decide) (by kernel_rfl) ⟨rfl, by decide, by decide⟩ ?F (fun _ _ _ _ z => z)
    case F =>
      intro w mg fa h Y G hmg0
      obtain ⟨K, KX, c⟩ := Y
      have hmg : mg ("law" : PySem.Str) = some (.ref fa) := by
        have e : (HandSHeadRun.topDef (OpenLaw.row PySem.Challenge.rw_threeproofs_k06_values_of_terms).prog 27).name = ("law" : PySem.Str) := by kernel_rfl
        rw [← e]
        exact hmg0
      obtain ⟨fd, hb, hF⟩ := Hd.facts (P := (PySem.Challenge.rw_threeproofs_k06_values_of_terms).prog) (w := w) 100 KX G hmg c
      exact ⟨K, fd, fun vs H Q _ => Ev.spF ⟨K, w, fun _ => 0⟩ (Ev.callN Pg.fns (fun _ _ => false) 100 24) vs H Q fun _ _ _ => False, KX, hb, fun H a ns hl hO hS => Ev.law_sp hO hS (HH ns hl), fun base _ _ => Ev.fn_noX (hF base)⟩
end
theorem PySem.Challenge.cw_threeproofs_k06_values_of_terms_holds : PySem.Challenge.rw_threeproofs_k06_values_of_terms.Holds := by
  exact holds_of fun ns hl => Pg.c_law (n := 99) hl (by decide)
