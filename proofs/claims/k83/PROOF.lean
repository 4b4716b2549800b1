import PyProof.Rows.All
import Wide.All
import OpenK.AllK
import Wide.FinOn
import HandS.ForMost
import HandS.ForExc
import HandS.Defaults
import HandS.ExcIs
import HandS.IsInst
import KE.KDictKeyed
import HandS.TupAny
import HandS.TupMul
import HandS.Style
import HandS.Wide
import PyProof.StrOps2
import PyProof.NeData
import KE.KEqNest
import PyProof.FactsAll.bool_2
import HandS.More
import HandS.Conv
import HandS.Text
import HandS.RaiseMore
import HandS.Zip
import HandS.Flow
import HandS.ExcCtx
import HandS.Comp
import HandS.Small
import HandS.ExcOwn
import HandS.ExcValue
import HandS.TryOnly
import HandS.SuiteRaise
import HandS.RaiseFrom
import PyProof.ExcBaseAll.ValueError
import HandS.HeadEnd
import HandS.HeadHook1
import HandS.HeadHook2
import KE.KStateDown
import Lean
import HandS.Head0
import HandS.Head1
import HandS.Head2
import HandS.HeadHook4
import PySem.Challenge.RW_threeproofs_k83_no_texts_of_worlds
section
set_option Elab.async false
set_option linter.all false
namespace Ev
open PySem

/-- a value: lst, dct are lists and dicts that nobody else holds; fz a list that is never changed; ref n is object n of the store -/
inductive D where
  | non | bl (b : Bool) | int (i : Int) | str (x : Str)
  | tup (ds : List D) | lst (ds : List D) | dct (ks vs : List D)
  | fz (ds : List D) | ref (n : Nat) | exc (c : Nat)
  | nd (ks vs : List D)

abbrev Sto := List D
abbrev Env := List (Option D)

inductive R (α : Type) where
  | ok (a : α) (S : Sto)
  | ex (c : Nat) (S : Sto)

def bnd {α β : Type} (m : Option (R α)) (f : α → Sto → Option (R β)) : Option (R β) := match m with
  | some (.ok a S) => f a S
  | some (.ex c S) => some (.ex c S)
  | none => none
section
variable {α β : Type}
@[simp] theorem bnd_ok {a : α} {S : Sto} {f : α → Sto → Option (R β)} : bnd (some (.ok a S)) f = f a S := rfl
@[simp] theorem bnd_ex {c : Nat} {S : Sto} {f : α → Sto → Option (R β)} : bnd (some (.ex c S)) f = some (.ex c S) := rfl
@[simp] theorem bnd_none {f : α → Sto → Option (R β)} : bnd none f = none := rfl
theorem bnd_ite {c : Prop} [Decidable c] {x y : Option (R α)} {f : α → Sto → Option (R β)} : bnd (if c then x else y) f = if c then bnd x f else bnd y f := by split <;> rfl
end

/-! ### walks over a value -/
mutual
/-- every object that is named stands below b -/
def D.under (b : Nat) : D → Bool
  | .ref n => decide (n < b)
  | .tup ds => unders b ds
  | .lst ds => unders b ds
  | .fz ds => unders b ds
  | .dct ks vs => unders b ks && unders b vs
  | .nd ks vs => unders b ks && unders b vs
  | _ => true
def unders (b : Nat) : List D → Bool
  | [] => true
  | d :: ds => d.under b && unders b ds
end
mutual
/-- plain data: None, bools, ints, texts, tuples of such -/
def D.pure : D → Bool
  | .non => true
  | .bl _ => true
  | .int _ => true
  | .str _ => true
  | .tup ds => pures ds
  | _ => false
def pures : List D → Bool
  | [] => true
  | d :: ds => d.pure && pures ds
end
mutual
/-- no list or dict of its own within -/
def D.settled : D → Bool
  | .tup ds => settleds ds
  | .lst _ => false
  | .dct _ _ => false
  | .nd _ _ => false
  | _ => true
def settleds : List D → Bool
  | [] => true
  | d :: ds => d.settled && settleds ds
end
mutual
/-- own lists and dicts are put into the store -/
def settle : D → Sto → D × Sto
  | .tup ds, S => let r := settles ds S; (.tup r.1, r.2)
  | .lst ds, S => let r := settles ds S; (.ref r.2.length, r.2 ++ [.lst r.1])
  | .dct ks vs, S => let r := settles vs S; (.ref r.2.length, r.2 ++ [.dct ks r.1])
  | .nd ks vs, S => let r := settles vs S; (.ref r.2.length, r.2 ++ [.nd ks r.1])
  | d, S => (d, S)
def settles : List D → Sto → List D × Sto
  | [], S => ([], S)
  | d :: ds, S => let r := settle d S; let q := settles ds r.2; (r.1 :: q.1, q.2)
end
mutual
def D.depth : D → Nat
  | .tup ds => depths ds + 1
  | .lst ds => depths ds + 1
  | .fz ds => depths ds + 1
  | .dct ks vs => max (depths ks) (depths vs) + 1
  | .nd ks vs => max (depths ks) (depths vs) + 1
  | _ => 0
def depths : List D → Nat
  | [] => 0
  | d :: ds => max d.depth (depths ds)
end
mutual
/-- == of data without refs -/
def D.eqv : D → D → Bool
  | .non, .non => true
  | .bl a, .bl b => a == b
  | .bl a, .int b => decide ((if a then 1 else 0) = b)
  | .int a, .bl b => decide (a = (if b then 1 else 0))
  | .int a, .int b => decide (a = b)
  | .str a, .str b => decide (a = b)
  | .tup a, .tup b => eqvs a b
  | .lst a, .lst b => eqvs a b
  | _, _ => false
def eqvs : List D → List D → Bool
  | [], [] => true
  | a :: as, b :: bs => a.eqv b && eqvs as bs
  | _, _ => false
end

/-! ### out of the store -/
/-- what is named at or behind b, taken out as own -/
def reify (S : Sto) (b : Nat) : Nat → D → Option D
  | 0, _ => none
  | k + 1, d => if d.under b then some d else match d with
    | .tup ds => (ds.mapM (reify S b k)).map .tup
    | .lst ds => (ds.mapM (reify S b k)).map .lst
    | .dct ks vs => (vs.mapM (reify S b k)).map (.dct ks)
    | .nd ks vs => (vs.mapM (reify S b k)).map (.nd ks)
    | .ref n => match S[n]? with
      | some (.lst ds) => (ds.mapM (reify S b k)).map .lst
      | some (.dct ks vs) => (vs.mapM (reify S b k)).map (.dct ks)
      | some (.nd ks vs) => (vs.mapM (reify S b k)).map (.nd ks)
      | _ => none
    | _ => none
/-- the objects that reify takes out -/
def taken (S : Sto) (b : Nat) : Nat → D → List Nat
  | 0, _ => []
  | k + 1, d => if d.under b then [] else match d with
    | .tup ds => ds.flatMap (taken S b k)
    | .lst ds => ds.flatMap (taken S b k)
    | .dct _ vs => vs.flatMap (taken S b k)
    | .nd _ vs => vs.flatMap (taken S b k)
    | .ref n => match S[n]? with
      | some (.lst ds) => ds.flatMap (taken S b k) ++ [n]
      | some (.dct _ vs) => vs.flatMap (taken S b k) ++ [n]
      | some (.nd _ vs) => vs.flatMap (taken S b k) ++ [n]
      | _ => []
    | _ => []
def closed (b : Nat) (S : Sto) : Bool := unders b (S.take b)
/-- a def is left: its own objects go, what is handed back is the caller's own -/
def leave (b : Nat) (d : D) (S : Sto) : Option (R D) :=
  if closed b S then match reify S b 9 d with
    | some d' => if (taken S b 9 d).Nodup then some (.ok d' (S.take b)) else none
    | none => none
  else some (.ok d S)
def leaveX (b : Nat) (c : Nat) (S : Sto) : Option (R D) := some (.ex c (if closed b S then S.take b else S))

/-- all that is named put in place -/
def res (S : Sto) : Nat → D → Option D
  | 0, _ => none
  | k + 1, d => if d.pure then some d else match d with
    | .tup ds => (ds.mapM (res S k)).map .tup
    | .lst ds => (ds.mapM (res S k)).map .lst
    | .fz ds => (ds.mapM (res S k)).map .lst
    | .ref n => match S[n]? with
      | some (.lst ds) => (ds.mapM (res S k)).map .lst
      | _ => none
    | _ => none

/-! ### primitive operations -/
def listOf (S : Sto) : D → Option (List D)
  | .lst ds => some ds
  | .fz ds => some ds
  | .ref n => match S[n]? with
    | some (.lst ds) => some ds
    | _ => none
  | _ => none
/-- a list that is no locked one -/
def mutOf (S : Sto) : D → Option (List D)
  | .lst ds => some ds
  | .ref n => match S[n]? with
    | some (.lst ds) => some ds
    | _ => none
  | _ => none
def seqOf (S : Sto) : D → Option (List D)
  | .tup ds => some ds
  | d => listOf S d
def dictOf (S : Sto) : D → Option (List D × List D)
  | .dct ks vs => some (ks, vs)
  | .ref n => match S[n]? with
    | some (.dct ks vs) => some (ks, vs)
    | _ => none
  | _ => none
def truth (S : Sto) : D → Option Bool
  | .non => some false
  | .bl b => some b
  | .int i => some (i != 0)
  | .str x => if x.length ≤ 16777216 then some (x.length != 0) else none
  | .tup ds => some (!ds.isEmpty)
  | d => match listOf S d with
    | some ds => some (!ds.isEmpty)
    | none => none
/-- .. dicts too -/
def resD (S : Sto) : Nat → D → Option D
  | 0, _ => none
  | k + 1, d => if d.pure then some d else match d with
    | .tup ds => (ds.mapM (resD S k)).map .tup
    | .dct ks vs => (vs.mapM (resD S k)).map (.dct ks)
    | .nd ks vs => (vs.mapM (resD S k)).map (.nd ks)
    | .ref n => match S[n]? with
      | some (.dct ks vs) => (vs.mapM (resD S k)).map (.dct ks)
      | some (.nd ks vs) => (vs.mapM (resD S k)).map (.nd ks)
      | _ => none
    | _ => none
open Classical in
noncomputable def eqD (S : Sto) (a b : D) : Option Bool := match resD S 60 a, resD S 60 b with
  | some x, some y => if x = y ∧ x.depth ≤ 150 then some true else none
  | _, _ => none
def eqE (S : Sto) (a b : D) : Option Bool := match res S 60 a, res S 60 b with
  | some x, some y => if min x.depth y.depth ≤ 150 then some (x.eqv y) else none
  | _, _ => none

inductive Bin where | add | sub | mul | fdiv | mod | pow
  deriving DecidableEq
inductive Cmp where | eq | ne | lt | le | gt | ge | in_ | notin
  deriving DecidableEq
inductive Ty where | int | str | tuple | list | dict | bool | valueError | cls (c : Nat)
  deriving DecidableEq

def mulOk (i j : Int) : Bool := decide (i.natAbs.log2 + j.natAbs.log2 < 1000000)
def divOk (j : Int) : Bool := decide (j ≠ 0) && decide (j.natAbs.log2 < 9000)
def repL (n : Int) (ds : List D) : List D := (List.replicate n.toNat ds).flatten
def repS (n : Int) (x : Str) : Str := ⟨((List.replicate n.toNat x.cps.toList).flatten).toArray⟩
def lenOk (n : Nat) : Bool := decide (n ≤ 16777216)
def binE (S : Sto) : Bin → D → D → Option D
  | .add, .int i, .int j => some (.int (i + j))
  | .add, .str x, .str y => if lenOk (x.length + y.length) then some (.str (x ++ y)) else none
  | .add, .tup a, .tup b => if lenOk (a.length + b.length) then some (.tup (a ++ b)) else none
  | .add, a, b => match mutOf S a, mutOf S b with
    | some x, some y => if lenOk (x.length + y.length) then some (.lst (x ++ y)) else none
    | _, _ => none
  | .sub, .int i, .int j => some (.int (i - j))
  | .mul, .int i, .int j => if mulOk i j then some (.int (i * j)) else none
  | .mul, .str x, .int n => if decide (0 ≤ n) && decide (n ≤ 10000) && decide (x.length ≤ 1000) then some (.str (repS n x)) else none
  | .mul, .tup a, .int n => if decide (2 ≤ n) && decide (n ≤ 1000) && decide (a.length ≤ 1000) && !a.isEmpty && settleds a then some (.tup (repL n a)) else none
  | .fdiv, .int i, .int j => if divOk j then some (.int (i.fdiv j)) else none
  | .mod, .int i, .int j => if decide (j ≠ 0) then some (.int (i.fmod j)) else none
  | .pow, .int i, .int j => if decide (0 ≤ j) && decide (j ≤ 1000000) && decide (i.natAbs < 2 ^ 64) then some (.int (i ^ j.toNat)) else none
  | _, _, _ => none

/-- the place of an index of any sign -/
def atI {α : Type} (xs : List α) (i : Int) : Option α := if 0 ≤ i then xs[i.toNat]? else if -(xs.length : Int) ≤ i then xs[(i + xs.length).toNat]? else none
def find (ks : List D) (k : D) : Option Nat := ks.findIdx? fun x => x.eqv k
/-- what may be a key of a dict with tuple keys -/
def tkeyOk : D → Bool
  | .tup ks => pures ks && decide (D.depth (.tup ks) ≤ 8)
  | _ => false
/-- a dict with tuple keys (the empty one is both) -/
def ndOf (S : Sto) : D → Option (List D × List D)
  | .nd ks vs => some (ks, vs)
  | .dct [] [] => some ([], [])
  | .ref n => match S[n]? with
    | some (.nd ks vs) => some (ks, vs)
    | some (.dct [] []) => some ([], [])
    | _ => none
  | _ => none
/-- what may be a dict's key -/
def keyOk : D → Bool
  | .int _ => true
  | .str _ => true
  | _ => false
def getK (ks vs : List D) (k : D) : Option D := match find ks k with
  | some i => vs[i]?
  | none => none
def putK (ks vs : List D) (k v : D) : List D × List D := match find ks k with
  | some i => (ks, vs.set i v)
  | none => (ks ++ [k], vs ++ [v])
def resL (S : Sto) (k : Nat) (ds : List D) : Option (List D) := if pures ds then some ds else ds.mapM (res S k)
def inL (S : Sto) (x : D) (ds : List D) : Option Bool := match res S 60 x, resL S 60 ds with
  | some y, some ys => if min (depths ys) y.depth ≤ 150 then some (ys.any fun z => z.eqv y) else none
  | _, _ => none
def intOf : D → Option Int
  | .int i => some i
  | .bl b => some (if b then 1 else 0)
  | _ => none
def strLt (x y : Str) : Bool := decide (x.cps.toList < y.cps.toList)
def ltE (a b : D) : Option Bool := match a, b with
  | .int i, .int j => some (decide (i < j))
  | .str x, .str y => some (strLt x y)
  | _, _ => none
def inStr (x y : Str) : Bool := !(Builtin.Str.occurrences y x 0 y.length 1).isEmpty
def inE (S : Sto) (a b : D) : Option Bool := match b with
  | .str y => match a with
    | .str x => some (inStr x y)
    | _ => none
  | _ => match seqOf S b with
    | some ds => inL S a ds
    | none => match dictOf S b with
      | some (ks, _) => if keyOk a then some (find ks a).isSome else none
      | none => none
/-- .. else as dicts -/
noncomputable def orD (m : Option Bool) (S : Sto) (a b : D) : Option Bool := match m with
  | some k => some k
  | none => eqD S a b
@[simp] theorem orD_some {k : Bool} {S : Sto} {a b : D} : orD (some k) S a b = some k := rfl
noncomputable def cmpE (S : Sto) : Cmp → D → D → Option Bool
  | .eq, a, b => orD (eqE S a b) S a b
  | .ne, a, b => (eqE S a b).map (!·)
  | .lt, a, b => ltE a b
  | .gt, a, b => ltE b a
  | .le, .int i, .int j => some (decide (i ≤ j))
  | .le, .bl a, .bl b => some (!a || b)
  | .ge, .int i, .int j => some (decide (j ≤ i))
  | .in_, a, b => inE S a b
  | .notin, a, b => (inE S a b).map (!·)
  | _, _, _ => none
def idxE (S : Sto) (a i : D) : Option D := match a with
  | .tup ds => match i with
    | .int k => atI ds k
    | _ => none
  | .str x => match i with
    | .int k => if x.length ≤ 16777216 then (atI x.cps.toList k).map fun c => .str ⟨#[c]⟩ else none
    | _ => none
  | _ => match listOf S a with
    | some ds => match i with
      | .int k => atI ds k
      | _ => none
    | none => match dictOf S a with
      | some (ks, vs) => if keyOk i then getK ks vs i else none
      | none => none
def sIx (n d : Nat) : D → Option Nat
  | .non => some d
  | .int v => some (if v < 0 then (v + (n : Int)).toNat else min v.toNat n)
  | _ => none
def isPart : D → Bool
  | .non => true
  | .int _ => true
  | _ => false
def cut {α : Type} (xs : List α) (i j : Nat) : List α := (xs.drop i).take (j - i)
def slE (S : Sto) (a lo hi : D) : Option D := match a with
  | .tup ds => match sIx ds.length 0 lo, sIx ds.length ds.length hi with
    | some i, some j => some (.tup (cut ds i j))
    | _, _ => none
  | .str x => match sIx x.length 0 lo, sIx x.length x.length hi with
    | some i, some j => if x.length ≤ 16777216 then some (.str ⟨(cut x.cps.toList i j).toArray⟩) else none
    | _, _ => none
  | _ => match listOf S a with
    | some ds => match sIx ds.length 0 lo, sIx ds.length ds.length hi with
      | some i, some j => some (.lst (cut ds i j))
      | _, _ => none
    | none => none

/-- the built-in type of a value -/
inductive VT where | non | bl | int | str | tup | lst | dct
  deriving DecidableEq
def vtOf (S : Sto) : D → Option VT
  | .non => some .non
  | .bl _ => some .bl
  | .int _ => some .int
  | .str _ => some .str
  | .tup _ => some .tup
  | .lst _ => some .lst
  | .fz _ => some .lst
  | .dct _ _ => some .dct
  | .ref n => match S[n]? with
    | some (.lst _) => some .lst
    | some (.dct _ _) => some .dct
    | _ => none
  | .exc _ => none
  | .nd _ _ => none
def isVT (t : Ty) : VT → Option Bool
  | v => match t with
    | .int => some (v == .int || v == .bl)
    | .str => some (v == .str)
    | .tuple => some (v == .tup)
    | .list => some (v == .lst)
    | .dict => some (v == .dct)
    | .bool => some (v == .bl)
    | _ => none
def isTy (isa : Nat → Ty → Bool) (S : Sto) (t : Ty) (d : D) : Option Bool := match d with
  | .exc c => match t with
    | .valueError => some (isa c t)
    | .cls _ => some (isa c t)
    | _ => none
  | _ => match vtOf S d with
    | some v => isVT t v
    | none => none
def isTys (isa : Nat → Ty → Bool) (S : Sto) (d : D) : List Ty → Option Bool
  | [] => some false
  | t :: ts => match isTy isa S t d with
    | some true => some true
    | some false => isTys isa S d ts
    | none => none

inductive Blt where | len | abs | min2 | max2 | maxL | minL | sum | sorted | tuple | list | int | str
  deriving DecidableEq
def intsOf : List D → Option (List Int)
  | [] => some []
  | .int i :: r => (intsOf r).map (i :: ·)
  | _ => none
def strsOf : List D → Option (List Str)
  | [] => some []
  | .str i :: r => (strsOf r).map (i :: ·)
  | _ => none
def sortedStrs (xs : List Str) : List Str := xs.mergeSort fun x y => !strLt y x
def maxOf : List Int → Int
  | [] => 0
  | x :: r => r.foldl max x
def bltE (S : Sto) : Blt → List D → Option D
  | .len, [a] => match a with
    | .str x => if x.length ≤ 16777216 then some (.int x.length) else none
    | _ => match seqOf S a with
      | some ds => some (.int ds.length)
      | none => match dictOf S a with
        | some (ks, _) => some (.int ks.length)
        | none => none
  | .abs, [.int i] => some (.int (if i < 0 then -i else i))
  | .min2, [.int i, .int j] => some (.int (if j < i then j else i))
  | .max2, [.int i, .int j] => some (.int (if j > i then j else i))
  | .maxL, [a] => match (listOf S a).bind intsOf with
    | some (x :: r) => some (.int (maxOf (x :: r)))
    | _ => none
  | .sum, [a] => match (listOf S a).bind intsOf with
    | some ns => some (.int ns.sum)
    | none => none
  | .sorted, [a] => match listOf S a with
    | some ds => match strsOf ds with
      | some xs => if xs.length < 64 then some (.lst ((sortedStrs xs).map .str)) else none
      | none => none
    | none => match dictOf S a with
      | some (ks, _) => match strsOf ks with
        | some xs => if xs.length < 64 then some (.lst ((sortedStrs xs).map .str)) else none
        | none => none
      | none => none
  | .tuple, [a] => (seqOf S a).map .tup
  | .list, [a] => (seqOf S a).map .lst
  | .int, [.int i] => some (.int i)
  | .int, [.bl b] => some (.int (if b then 1 else 0))
  | .int, [.str x] => match PySem.intText? x with
    | some n => if x.length ≤ 640 then some (.int n) else none
    | none => none
  | .str, [.int i] => if i.natAbs.log2 < 1920 then some (.str (toString i)) else none
  | .str, [.str x] => some (.str x)
  | _, _ => none

inductive Mth where | append | pop | extend | join | upper | get | split | startswith | partition
  deriving DecidableEq
def mthE : Mth → D → List D → Sto → Option (D × Sto)
  | .append, .ref n, [v], S => match S[n]? with
    | some (.lst ds) => if ds.length < 16777216 then let r := settle v S; some (.non, r.2.set n (.lst (ds ++ [r.1]))) else none
    | _ => none
  | .pop, .ref n, [], S => match S[n]? with
    | some (.lst ds) => match ds.getLast? with
      | some d => some (d, S.set n (.lst ds.dropLast))
      | none => none
    | _ => none
  | .extend, .ref n, [.tup es], S => match S[n]? with
    | some (.lst ds) => if lenOk (ds.length + es.length) then let r := settles es S; some (.non, r.2.set n (.lst (ds ++ r.1))) else none
    | _ => none
  | .join, .str x, [v], S => match (listOf S v).bind strsOf with
    | some ys => if decide ((ys.map (·.length)).sum + ys.length * x.length ≤ 16777216) then some (.str (Txt.join x ys), S) else none
    | none => none
  | .upper, .str x, [], S => if x.length ≤ 5592405 then some (.str (Txt.upper x), S) else none
  | .get, d, [k, v], S => match dictOf S d with
    | some (ks, vs) => if keyOk k then some ((getK ks vs k).getD v, S) else match ndOf S d with
      | some (ks, vs) => if tkeyOk k then some ((getK ks vs k).getD v, S) else none
      | none => none
    | none => match ndOf S d with
      | some (ks, vs) => if tkeyOk k then some ((getK ks vs k).getD v, S) else none
      | none => none
  | .split, .str x, [.str y], S => if (y.length == 0) = false ∧ x.length + 2 ≤ 16777216 then some (.lst ((Txt.split x y).map .str), S) else none
  | .startswith, .str x, [.str y], S => some (.bl (Txt.startswith x y), S)
  | .partition, .str x, [.str y], S => if (y.length == 0) = false ∧ x.length ≤ 16777216 then some (.tup [.str (Txt.partition x y).1, .str (Txt.partition x y).2.1, .str (Txt.partition x y).2.2], S) else none
  | _, _, _, _ => none

/-- what a method is called on -/
def recvOk : Mth → D → Sto → Bool
  | .append, d, S => (listOf S d).isSome
  | .pop, d, S => (listOf S d).isSome
  | .extend, d, S => (listOf S d).isSome
  | .join, .str _, _ => true
  | .upper, .str _, _ => true
  | .get, d, S => (dictOf S d).isSome || (ndOf S d).isSome
  | .split, .str _, _ => true
  | .startswith, .str _, _ => true
  | .partition, .str _, _ => true
  | _, _, _ => false
/-! ### the syntax -/
inductive ItK where | val | rng1 | rng2 | zip | enum | items
  deriving DecidableEq
inductive Tg where | nm (i : Nat) | tp (is : List Nat)
inductive PE where
  | var (i : Nat) | cst (d : D)
  | tup (es : List PE) | lst (es : List PE) | dct0
  | bin (o : Bin) (a b : PE) | neg (a : PE) | not (a : PE) | and (a b : PE) | or (a b : PE)
  | cmp (o : Cmp) (a b : PE) | cmp2 (o o' : Cmp) (a b c : PE)
  | is_ (neg : Bool) (a : PE) (c : D)
  | ife (c a b : PE)
  | idx (a i : PE) | sl (a lo hi : PE)
  | call (f : Nat) (es : List PE) | blt (b : Blt) (es : List PE) | mth (m : Mth) (o : PE) (es : List PE)
  | isi (a : PE) (ts : List Ty)
  | comp (tg : Tg) (k : ItK) (es : List PE) (ifs : List PE) (elt : PE)
  | compX (tg : Tg) (k : ItK) (es : List PE) (ifs : List PE) (elt : PE)
inductive PS where
  | set (i : Nat) (e : PE) | setT (is : List Nat) (e : PE) | par (is : List Nat) (es : List PE) | setI (o i v : PE)
  | aug (i : Nat) (o : Bin) (e : PE)
  | expr (e : PE) | ret (e : PE)
  | ife (c : PE) (a b : List PS)
  | for_ (tg : Tg) (k : ItK) (es : List PE) (body : List PS)
  | while_ (c : PE) (body : List PS)
  | raise (c : Nat)
  | try_ (body : List PS) (c : Nat) (i j : Nat)
  | augL (i : Nat) (e : PE)
  | tryS (i : Nat) (e : PE) (c : Nat)
  | tryR (i : Nat) (e : PE) (c c' : Nat)
  | tryC (i : Nat) (e : PE) (c : Nat) (d : D)

structure G where
  F : Nat → List D → Sto → Option (R D)
  isa : Nat → Ty → Bool

def tests {α : Type} (m : Option (R D)) (f : Bool → Sto → Option α) (g : Nat → Sto → Option α) : Option α := match m with
  | some (.ok d S) => match truth S d with
    | some b => f b S
    | none => none
  | some (.ex c S) => g c S
  | none => none
section
variable {α : Type} {f : Bool → Sto → Option α} {g : Nat → Sto → Option α}
@[simp] theorem tests_ok {d : D} {S : Sto} : tests (some (.ok d S)) f g = match truth S d with | some b => f b S | none => none := rfl
@[simp] theorem tests_ex {c : Nat} {S : Sto} : tests (some (.ex c S)) f g = g c S := rfl
@[simp] theorem tests_none : tests none f g = none := rfl
end

/-- what a for walks: the items; the object that has to stay as it is -/
def itemsOf (S : Sto) : ItK → List D → Option (List D × Option (Nat × List D))
  | .val, [.tup ds] => some (ds, none)
  | .val, [.lst ds] => some (ds, none)
  | .val, [.fz ds] => some (ds, none)
  | .val, [.str x] => if x.length ≤ 16777216 then some (x.cps.toList.map fun c => .str ⟨#[c]⟩, none) else none
  | .val, [.ref n] => match S[n]? with
    | some (.lst ds) => some (ds, some (n, ds))
    | _ => none
  | .rng1, [.int j] => if decide (j ≤ 1000000) && decide (-1000000 ≤ j) then some ((List.range j.toNat).map fun (k : Nat) => .int k, none) else none
  | .rng2, [.int i, .int j] => if decide (j ≤ 1000000) && decide (-1000000 ≤ j) && decide (i ≤ 1000000) && decide (-1000000 ≤ i) then some ((List.range (j - i).toNat).map fun (k : Nat) => .int (i + k), none) else none
  | .zip, [.tup a, .tup b] => if settleds a && settleds b then some (a.zipWith (fun x y => .tup [x, y]) b, none) else none
  | _, _ => none
/-- the walked list stands as it stood -/
def stays (lk : Option (Nat × List D)) (S : Sto) : Prop := match lk with
  | none => True
  | some (n, ds) => S[n]? = some (.lst ds)
open Classical in
noncomputable def guardS {α : Type} (lk : Option (Nat × List D)) (S : Sto) (x : Option α) : Option α := if stays lk S then x else none

def setNames : List Nat → List D → Env → Option Env
  | [], [], ρ => some ρ
  | i :: is, d :: ds, ρ => setNames is ds (ρ.set i (some d))
  | _, _, _ => none
/-- a target is given a value -/
def setTg (tg : Tg) (d : D) (ρ : Env) (S : Sto) : Option (Env × Sto) := match tg with
  | .nm i => let r := settle d S; some (ρ.set i (some r.1), r.2)
  | .tp is => match d with
    | .tup ds => let r := settles ds S; (setNames is r.1 ρ).map fun ρ' => (ρ', r.2)
    | _ => none
/-- .. where nothing may be raised -/
def bndN {α β : Type} (m : Option (R α)) (f : α → Sto → Option β) : Option β := match m with
  | some (.ok a S) => f a S
  | _ => none
@[simp] theorem bndN_ok {α β : Type} {a : α} {S : Sto} {f : α → Sto → Option β} : bndN (some (.ok a S)) f = f a S := rfl
@[simp] theorem bndN_ex {α β : Type} {c : Nat} {S : Sto} {f : α → Sto → Option β} : bndN (some (.ex c S)) f = none := rfl
@[simp] theorem bndN_none {α β : Type} {f : α → Sto → Option β} : bndN none f = none := rfl
noncomputable def compL (lk : Option (Nat × List D)) (f : D → Sto → Option (R (Option D))) : List D → Sto → Option (List D × Sto)
  | [], S => guardS lk S (some ([], S))
  | d :: ds, S => guardS lk S (bndN (f d S) fun x S => (compL lk f ds S).map fun r => (match x with | some y => y :: r.1 | none => r.1, r.2))

/-- .. where an error is handed on -/
noncomputable def compLX (lk : Option (Nat × List D)) (f : D → Sto → Option (R (Option D))) : List D → Sto → Option (R (List D))
  | [], S => guardS lk S (some (.ok [] S))
  | d :: ds, S => guardS lk S (bnd (f d S) fun x S => bnd (compLX lk f ds S) fun r S => some (.ok (match x with | some y => y :: r | none => r) S))

/-- x is c, x is not c, c written: None, True or False -/
def isC (ng : Bool) : D → D → Option Bool
  | .non, .non => some (!ng)
  | .bl b, .bl b' => some (ng != (b == b'))
  | .non, _ => some ng
  | .bl _, _ => some ng
  | _, _ => none
mutual
noncomputable def evalE (g : G) : PE → Env → Sto → Option (R D)
  | .var i, ρ, S => match ρ[i]? with
    | some (some d) => some (.ok d S)
    | _ => none
  | .cst d, _, S => some (.ok d S)
  | .tup es, ρ, S => bnd (evalEs g es ρ S) fun ds S => some (.ok (.tup ds) S)
  | .lst es, ρ, S => bnd (evalEs g es ρ S) fun ds S => some (.ok (.lst ds) S)
  | .dct0, _, S => some (.ok (.dct [] []) S)
  | .bin o a b, ρ, S => bnd (evalE g a ρ S) fun x S => bnd (evalE g b ρ S) fun y S => (binE S o x y).map fun z => .ok z S
  | .neg a, ρ, S => bnd (evalE g a ρ S) fun x S => match x with
    | .int i => some (.ok (.int (-i)) S)
    | _ => none
  | .not a, ρ, S => tests (evalE g a ρ S) (fun b S => some (.ok (.bl (!b)) S)) fun c S => some (.ex c S)
  | .and a b, ρ, S => bnd (evalE g a ρ S) fun x S => match truth S x with
    | some true => evalE g b ρ S
    | some false => some (.ok x S)
    | none => none
  | .or a b, ρ, S => bnd (evalE g a ρ S) fun x S => match truth S x with
    | some true => some (.ok x S)
    | some false => evalE g b ρ S
    | none => none
  | .cmp o a b, ρ, S => bnd (evalE g a ρ S) fun x S => bnd (evalE g b ρ S) fun y S => (cmpE S o x y).map fun z => .ok (.bl z) S
  | .cmp2 o o' a b c, ρ, S => bnd (evalE g a ρ S) fun x S => bnd (evalE g b ρ S) fun y S => match cmpE S o x y with
    | some true => bnd (evalE g c ρ S) fun z S => (cmpE S o' y z).map fun u => .ok (.bl u) S
    | some false => some (.ok (.bl false) S)
    | none => none
  | .is_ n a c, ρ, S => bnd (evalE g a ρ S) fun x S => (isC n c x).map fun b => .ok (.bl b) S
  | .ife c a b, ρ, S => tests (evalE g c ρ S) (fun t S => if t then evalE g a ρ S else evalE g b ρ S) fun c S => some (.ex c S)
  | .idx a i, ρ, S => bnd (evalE g a ρ S) fun x S => bnd (evalE g i ρ S) fun y S => (idxE S x y).map fun z => .ok z S
  | .sl a lo hi, ρ, S => bnd (evalE g a ρ S) fun x S => bnd (evalE g lo ρ S) fun l S => if isPart l then bnd (evalE g hi ρ S) fun h S => (slE S x l h).map fun z => .ok z S else none
  | .call f es, ρ, S => bnd (evalEs g es ρ S) fun ds S => g.F f ds S
  | .blt b es, ρ, S => bnd (evalEs g es ρ S) fun ds S => (bltE S b ds).map fun z => .ok z S
  | .mth m o es, ρ, S => bnd (evalE g o ρ S) fun x S => if recvOk m x S then bnd (evalEs g es ρ S) fun ds S => (mthE m x ds S).map fun r => .ok r.1 r.2 else none
  | .isi a ts, ρ, S => bnd (evalE g a ρ S) fun x S => (isTys g.isa S x ts).map fun b => .ok (.bl b) S
  | .comp tg k es ifs elt, ρ, S => bnd (evalEs g es ρ S) fun ds S => match itemsOf S k ds with
    | some (its, lk) => (compL lk (fun d S => match setTg tg d ρ S with
        | some (ρ', S) => bnd (evalIfs g ifs ρ' S) fun b S => if b then bnd (evalE g elt ρ' S) fun x S => some (.ok (some x) S) else some (.ok none S)
        | none => none) its S).map fun r => .ok (.lst r.1) r.2
    | none => none
  | .compX tg k es ifs elt, ρ, S => bnd (evalEs g es ρ S) fun ds S => match itemsOf S k ds with
    | some (its, lk) => bnd (compLX lk (fun d S => match setTg tg d ρ S with
        | some (ρ', S) => bnd (evalIfs g ifs ρ' S) fun b S => if b then bnd (evalE g elt ρ' S) fun x S => some (.ok (some x) S) else some (.ok none S)
        | none => none) its S) fun r S => some (.ok (.lst r) S)
    | none => none
noncomputable def evalEs (g : G) : List PE → Env → Sto → Option (R (List D))
  | [], _, S => some (.ok [] S)
  | e :: es, ρ, S => bnd (evalE g e ρ S) fun d S => bnd (evalEs g es ρ S) fun ds S => some (.ok (d :: ds) S)
noncomputable def evalIfs (g : G) : List PE → Env → Sto → Option (R Bool)
  | [], _, S => some (.ok true S)
  | e :: es, ρ, S => tests (evalE g e ρ S) (fun b S => if b then evalIfs g es ρ S else some (.ok false S)) fun c S => some (.ex c S)
end

inductive Fl where
  | nx (ρ : Env)
  | ret (d : D)
  | ex (c : Nat)

def bndS {α : Type} (m : Option (R α)) (f : α → Sto → Option (Fl × Sto)) : Option (Fl × Sto) := match m with
  | some (.ok a S) => f a S
  | some (.ex c S) => some (.ex c, S)
  | none => none
def seqS (m : Option (Fl × Sto)) (f : Env → Sto → Option (Fl × Sto)) : Option (Fl × Sto) := match m with
  | some (.nx ρ, S) => f ρ S
  | r => r
section
variable {α : Type}
@[simp] theorem bndS_ok {a : α} {S : Sto} {f : α → Sto → Option (Fl × Sto)} : bndS (some (.ok a S)) f = f a S := rfl
@[simp] theorem bndS_ex {c : Nat} {S : Sto} {f : α → Sto → Option (Fl × Sto)} : bndS (some (.ex c S)) f = some (.ex c, S) := rfl
@[simp] theorem bndS_none {f : α → Sto → Option (Fl × Sto)} : bndS none f = none := rfl
@[simp] theorem seqS_nx {ρ : Env} {S : Sto} {f : Env → Sto → Option (Fl × Sto)} : seqS (some (.nx ρ, S)) f = f ρ S := rfl
@[simp] theorem seqS_ret {d : D} {S : Sto} {f : Env → Sto → Option (Fl × Sto)} : seqS (some (.ret d, S)) f = some (.ret d, S) := rfl
@[simp] theorem seqS_ex {c : Nat} {S : Sto} {f : Env → Sto → Option (Fl × Sto)} : seqS (some (.ex c, S)) f = some (.ex c, S) := rfl
@[simp] theorem seqS_none {f : Env → Sto → Option (Fl × Sto)} : seqS none f = none := rfl
end

noncomputable def forL (lk : Option (Nat × List D)) (f : D → Env → Sto → Option (Fl × Sto)) : List D → Env → Sto → Option (Fl × Sto)
  | [], ρ, S => guardS lk S (some (.nx ρ, S))
  | d :: ds, ρ, S => guardS lk S (seqS (f d ρ S) fun ρ S => forL lk f ds ρ S)
def whileL (c : Env → Sto → Option (R D)) (b : Env → Sto → Option (Fl × Sto)) (ρ : Env) (S : Sto) : Option (Fl × Sto) :=
  match c ρ S with
  | none => none
  | some (.ex x S) => some (.ex x, S)
  | some (.ok d S) => match truth S d with
    | none => none
    | some false => some (.nx ρ, S)
    | some true => match b ρ S with
      | none => none
      | some (.ret d, S) => some (.ret d, S)
      | some (.ex x, S) => some (.ex x, S)
      | some (.nx ρ', S') => whileL c b ρ' S'
partial_fixpoint

def setItE (o i v : D) (S : Sto) : Option Sto := match o with
  | .ref n => match S[n]? with
    | some (.lst ds) => match i with
      | .int k => let r := settle v S; if 0 ≤ k ∧ k < ds.length then some (r.2.set n (.lst (ds.set k.toNat r.1))) else none
      | _ => none
    | some (.dct ks vs) => if keyOk i && decide (ks.length < 16777216) then let r := settle v S; let q := putK ks vs i r.1; some (r.2.set n (.dct q.1 q.2)) else
        if tkeyOk i && ks.isEmpty && vs.isEmpty then let r := settle v S; some (r.2.set n (.nd [i] [r.1])) else none
    | some (.nd ks vs) => if tkeyOk i && decide (ks.length < 16777216) then let r := settle v S; let q := putK ks vs i r.1; some (r.2.set n (.nd q.1 q.2)) else none
    | _ => none
  | _ => none

mutual
noncomputable def execS (g : G) : PS → Env → Sto → Option (Fl × Sto)
  | .set i e, ρ, S => bndS (evalE g e ρ S) fun d S => let r := settle d S; some (.nx (ρ.set i (some r.1)), r.2)
  | .setT is e, ρ, S => bndS (evalE g e ρ S) fun d S => match setTg (.tp is) d ρ S with
    | some (ρ', S) => some (.nx ρ', S)
    | none => none
  | .par is es, ρ, S => bndS (evalEs g es ρ S) fun ds S => match setTg (.tp is) (.tup ds) ρ S with
    | some (ρ', S) => some (.nx ρ', S)
    | none => none
  | .setI o i v, ρ, S => bndS (evalE g v ρ S) fun x S => bndS (evalE g o ρ S) fun a S => bndS (evalE g i ρ S) fun k S => (setItE a k x S).map fun S => (.nx ρ, S)
  | .aug i o e, ρ, S => match ρ[i]? with
    | some (some x) => bndS (evalE g e ρ S) fun y S => match x, y with
      | .int _, .int _ => (binE S o x y).map fun z => (.nx (ρ.set i (some z)), S)
      | _, _ => none
    | _ => none
  | .expr e, ρ, S => bndS (evalE g e ρ S) fun _ S => some (.nx ρ, S)
  | .ret e, ρ, S => bndS (evalE g e ρ S) fun d S => some (.ret d, S)
  | .ife c a b, ρ, S => tests (evalE g c ρ S) (fun t S => if t then execB g a ρ S else execB g b ρ S) fun c S => some (.ex c, S)
  | .for_ tg k es body, ρ, S => bndS (evalEs g es ρ S) fun ds S => match itemsOf S k ds with
    | some (its, lk) => forL lk (fun d ρ S => match setTg tg d ρ S with
        | some (ρ', S) => execB g body ρ' S
        | none => none) its ρ S
    | none => none
  | .while_ c body, ρ, S => whileL (fun ρ S => evalE g c ρ S) (fun ρ S => execB g body ρ S) ρ S
  | .raise c, _, S => some (.ex c, S)
  | .try_ body c i j, ρ, S => match execB g body ρ S with
    | some (.ex x, S) => if g.isa x (.cls c) then some (.nx ((ρ.set i (some (.exc x))).set j none), S) else some (.ex x, S)
    | r => r
  | .augL i e, ρ, S => match ρ[i]? with
    | some (some (.ref n)) => bndS (evalE g e ρ S) fun y S => match y with
      | .lst es => match S[n]? with
        | some (.lst ds) => if lenOk (ds.length + es.length) then some (.nx ρ, (settles es S).2.set n (.lst (ds ++ (settles es S).1))) else none
        | _ => none
      | _ => none
    | _ => none
  | .tryS i e c, ρ, S => match evalE g e ρ S with
    | some (.ok d S) => some (.nx (ρ.set i (some (settle d S).1)), (settle d S).2)
    | some (.ex x S) => if g.isa x (.cls c) then none else some (.ex x, S)
    | none => none
  | .tryR i e c c', ρ, S => match evalE g e ρ S with
    | some (.ok d S) => some (.nx (ρ.set i (some (settle d S).1)), (settle d S).2)
    | some (.ex x S) => if g.isa x (.cls c) then some (.ex c', S) else some (.ex x, S)
    | none => none
  | .tryC i e c d, ρ, S => match evalE g e ρ S with
    | some (.ok d S) => some (.nx (ρ.set i (some (settle d S).1)), (settle d S).2)
    | some (.ex x S) => if g.isa x (.cls c) then some (.nx (ρ.set i (some d)), S) else some (.ex x, S)
    | none => none
noncomputable def execB (g : G) : List PS → Env → Sto → Option (Fl × Sto)
  | [], ρ, S => some (.nx ρ, S)
  | s :: ss, ρ, S => seqS (execS g s ρ S) fun ρ S => execB g ss ρ S
end

structure Fn where
  np : Nat
  ns : Nat
  body : List PS
def startE (ns : Nat) (ds : List D) : Env := ds.map some ++ List.replicate (ns - ds.length) none
/-- the def f called, at most n calls one in another -/
noncomputable def callN (fns : List Fn) (isa : Nat → Ty → Bool) : Nat → Nat → List D → Sto → Option (R D)
  | 0, _, _, _ => none
  | n + 1, f, ds, S => match fns[f]? with
    | none => none
    | some fd => if ds.length = fd.np then
        match execB ⟨callN fns isa n, isa⟩ fd.body (startE fd.ns (settles ds S).1) (settles ds S).2 with
        | some (.nx _, S') => leave S.length .non S'
        | some (.ret d, S') => leave S.length d S'
        | some (.ex c, S') => leaveX S.length c S'
        | none => none
      else none
end Ev
end
section
set_option Elab.async false
set_option linter.all false
namespace Ev
/-! the exception classes: the first is the base of all others -/
def cIx (k c : Nat) : Nat := if c < k then c else 0
def isaX (k : Nat) (c : Nat) : Ty → Bool
  | .cls c' => cIx k c' == 0 || cIx k c == cIx k c'
  | .valueError => true
  | _ => false
end Ev
end
section
set_option Elab.async false
set_option linter.all false
set_option maxRecDepth 100000
namespace Ev
open PySem PySem.Spec PyProof.Rows L2
abbrev Slots := List (Option V)
/-- a list that is never changed -/
def FzAt (K : PySem.W.Frag) (H : Hp) (a : Addr) (xs : List V) : Prop := (∃ o, H a = some (.frz o (.lst xs))) ∨ ∃ (o : Obj) (its : Array Value) (n : Nat), K.lookup a = some o ∧ o.cls = .type "list" ∧ o.dict = none ∧ o.data = .seq its n ∧ its.size ≤ sizeLine ∧ Vals xs its.toList
theorem FzAt.sq {K : PySem.W.Frag} {H : Hp} {a : Addr} {xs : List V} (h : FzAt K H a xs) : SqL K H a xs := h.elim (fun ⟨o, e⟩ => .inl (.inr ⟨o, e⟩)) .inr

/-- what is fixed through a program: the written part, the world, where the classes stand -/
structure Pgm where
  K : PySem.W.Frag
  w : World
  C : Nat → Addr

def excHO (C a : Addr) : HO := .ext fun h => ∃ o vs, h.get? a = some o ∧ o.cls = .ref C ∧ o.dict = none ∧ o.data = .fields vs
def keyD : Key → D
  | .inl i => .int i
  | .inr x => .str x

mutual
/-- a pure value as a key -/
def D.nk : D → NestedKey
  | .bl b => .num (if b = true then 1 else 0)
  | .int i => .num i
  | .str x => .text x
  | .tup ds => .tup (nks ds)
  | _ => .none
def nks : List D → List NestedKey
  | [] => []
  | d :: ds => d.nk :: nks ds
end
/-- a dict with nested tuples for keys: the keys, where they stand, the values -/
def NdE (w : World) (h : Heap) (a : Addr) (ys : List (NestedKey × Addr × Value)) : Prop :=
  ∃ o es ep, h.get? a = some o ∧ o.ExactDict ∧ o.data = .dict es ep ∧ es.toList = ys.map (fun y => (⟨y.1.hash w, .ref y.2.1, y.2.2⟩ : DictEntry)) ∧ (ys.map (·.1)).Nodup
def ndHO (w : World) (a : Addr) (xs : List (NestedKey × Addr × V)) : HO := .ext fun h => (a == sysModules) = false ∧ xs.length ≤ sizeLine ∧
  ∃ ys : List (NestedKey × Addr × Value), Paired (fun (p : NestedKey × Addr × V) (q : NestedKey × Addr × Value) => p.1 = q.1 ∧ p.2.1 = q.2.1 ∧ RelV p.2.2 q.2.2) xs ys ∧ NdE w h a ys
theorem nd_ne_exc {w : World} {a c : Addr} {xs : List (NestedKey × Addr × V)} : ndHO w a xs ≠ excHO c a := fun e => by
  unfold ndHO excHO at e
  injection e with e
  let o : Obj := { cls := .ref c, data := .fields #[] }
  let h : Heap := { objs := Array.replicate (a + 1) o }
  have hg : h.get? a = some o := by
    unfold Heap.get?
    simp [h, o]
  have := congrFun e h
  obtain ⟨_, _, ys, _, o', es, ep, h1, _, h3, _⟩ := this.mpr ⟨o, #[], hg, rfl, rfl, rfl⟩
  rw [hg] at h1; cases h1; cases h3
/-- at a stands a dict with these tuples for keys -/
def NdAt (w : World) (H : Hp) (a : Addr) (ks : List D) (xs : List (NestedKey × Addr × V)) : Prop :=
  H a = some (ndHO w a xs) ∧ xs.map (·.1) = ks.map D.nk ∧ ∀ k ∈ ks, tkeyOk k = true
section
variable (T : Pgm) (H : Hp) (μ : List Addr)
/-- at a stands a dict with these keys and values -/
def DictAt (a : Addr) (ks : List D) (us : List V) : Prop := ∃ kvs : List (Key × V), H a = some (.dK kvs) ∧ ks = kvs.map (fun p => keyD p.1) ∧ us = kvs.map (·.2) ∧ (kvs.map (·.1)).Nodup
mutual
/-- d is what v stands for; fp: the objects that it holds alone, in the order in which settle lays them -/
def Rep : D → V → List Addr → Prop
  | .non, v, fp => v = .non ∧ fp = []
  | .bl b, v, fp => v = .bl b ∧ fp = []
  | .int i, v, fp => v = .int i ∧ fp = []
  | .str x, v, fp => v = .str x ∧ fp = []
  | .tup ds, v, fp => ∃ a vs, v = .ref a ∧ SqT T.K H a vs ∧ Reps ds vs fp
  | .lst ds, v, fp => ∃ a vs fp', v = .ref a ∧ H a = some (.lst vs) ∧ Reps ds vs fp' ∧ fp = fp' ++ [a]
  | .fz ds, v, fp => ∃ a vs, v = .ref a ∧ FzAt T.K H a vs ∧ Reps ds vs fp ∧ fp = []
  | .dct ks vs, v, fp => ∃ a us fp', v = .ref a ∧ DictAt H a ks us ∧ Reps vs us fp' ∧ fp = fp' ++ [a]
  | .nd ks vs, v, fp => ∃ a xs fp', v = .ref a ∧ NdAt T.w H a ks xs ∧ Reps ks (xs.map fun x => .ref x.2.1) [] ∧ Reps vs (xs.map (·.2.2)) fp' ∧ fp = fp' ++ [a]
  | .ref n, v, fp => ∃ a, v = .ref a ∧ μ[n]? = some a ∧ fp = []
  | .exc c, v, fp => ∃ a, v = .ref a ∧ H a = some (excHO (T.C c) a) ∧ (a ∉ μ ∧ T.C c ≠ 0) ∧ fp = []
def Reps : List D → List V → List Addr → Prop
  | [], vs, fp => vs = [] ∧ fp = []
  | d :: ds, vs, fp => ∃ v r f1 f2, vs = v :: r ∧ Rep d v f1 ∧ Reps ds r f2 ∧ fp = f1 ++ f2
end
def ObjAt : D → Addr → Prop
  | .lst ds, a => ∃ vs, H a = some (.lst vs) ∧ Reps T H μ ds vs []
  | .dct ks vs, a => ∃ us, DictAt H a ks us ∧ Reps T H μ vs us []
  | .nd ks vs, a => ∃ xs, NdAt T.w H a ks xs ∧ Reps T H μ ks (xs.map fun x => .ref x.2.1) [] ∧ Reps T H μ vs (xs.map (·.2.2)) []
  | _, _ => False
structure StOk (S : Sto) : Prop where
  len : S.length = μ.length
  nd : μ.Nodup
  at_ : ∀ (n : Nat) (d : D) (a : Addr), S[n]? = some d → μ[n]? = some a → ObjAt T H μ d a
def EnvOk (σ : Slots) (ρ : Env) : Prop := σ.length = ρ.length ∧ ∀ (i : Nat) (d : D), ρ[i]? = some (some d) → ∃ v, σ[i]? = some (some v) ∧ Rep T H μ d v []
end

/-- from (H, μ) on to (H', μ'): what is not in μ stays -/
structure Stp (H : Hp) (μ : List Addr) (H' : Hp) (μ' : List Addr) : Prop where
  ext : ∃ e, μ' = μ ++ e ∧ ∀ a ∈ e, H a = none
  fr : ∀ b o, H b = some o → b ∉ μ → H' b = some o
  dom : ∀ b o, H b = some o → ∃ o', H' b = some o'

section
variable {T : Pgm} {H H1 H2 H' : Hp} {μ μ1 μ2 μ' : List Addr} {S : Sto}
theorem Stp.refl : Stp H μ H μ := ⟨⟨[], by simp, by simp⟩, fun _ _ h _ => h, fun _ o h => ⟨o, h⟩⟩
theorem Stp.mem (s : Stp H μ H1 μ1) {a : Addr} (h : a ∈ μ) : a ∈ μ1 := by
  obtain ⟨e, rfl, _⟩ := s.ext
  exact List.mem_append_left _ h
theorem Stp.new (s : Stp H μ H1 μ1) {a : Addr} (h : a ∈ μ1) (n : a ∉ μ) : H a = none := by
  obtain ⟨e, rfl, f⟩ := s.ext
  exact f a ((List.mem_append.mp h).resolve_left n)
theorem Stp.free (s : Stp H μ H1 μ1) {a : Addr} (h : H1 a = none) : H a = none := by
  cases q : H a with
  | none => rfl
  | some o =>
    obtain ⟨o', e⟩ := s.dom a o q
    rw [h] at e; cases e
theorem Stp.trans (a : Stp H μ H1 μ1) (b : Stp H1 μ1 H2 μ2) : Stp H μ H2 μ2 := by
  refine ⟨?_, fun c o h n => ?_, fun c o h => ?_⟩
  · obtain ⟨e, rfl, f⟩ := a.ext
    obtain ⟨e', rfl, f'⟩ := b.ext
    refine ⟨e ++ e', by simp, fun x hx => ?_⟩
    rcases List.mem_append.mp hx with hx | hx
    · exact f x hx
    · exact a.free (f' x hx)
  · refine b.fr c o (a.fr c o h n) fun m => ?_
    rw [a.new m n] at h; cases h
  · obtain ⟨o', e⟩ := a.dom c o h
    exact b.dom c o' e
theorem Stp.get (s : Stp H μ H1 μ1) {n : Nat} {a : Addr} (h : μ[n]? = some a) : μ1[n]? = some a := by
  obtain ⟨e, rfl, _⟩ := s.ext
  rw [List.getElem?_append_left (List.getElem?_eq_some_iff.mp h).1]
  exact h
/-- a new object that is tracked, outside of the store -/
theorem Stp.upd {p : Addr} {o : HO} (n : H p = none) : Stp H μ (upd H p o) μ := ⟨⟨[], by simp, by simp⟩, fun b u h _ => by
  rw [upd_ne (ne_of_none h n)]
  exact h, fun b u h => by
  rw [upd_ne (ne_of_none h n)]
  exact ⟨u, h⟩⟩
end

/-- what stands in the store is a list or a dict -/
def Kinds (H : Hp) (μ : List Addr) : Prop := ∀ a ∈ μ, (∃ vs, H a = some (.lst vs)) ∨ (∃ kvs, H a = some (.dK kvs)) ∨ ∃ p : World × List (NestedKey × Addr × V), H a = some (ndHO p.1 a p.2)
section
variable {T : Pgm} {H H' : Hp} {μ μ' : List Addr} {S : Sto}
theorem StOk.kinds (h : StOk T H μ S) : Kinds H μ := fun a ha => by
  obtain ⟨n, hn, e⟩ := List.mem_iff_getElem.mp ha
  have hS : n < S.length := by rw [h.len]; exact hn
  have := h.at_ n S[n] a (List.getElem?_eq_getElem hS) (by rw [List.getElem?_eq_getElem hn, e])
  unfold ObjAt at this
  split at this
  · obtain ⟨vs, e, _⟩ := this; exact .inl ⟨vs, e⟩
  · obtain ⟨us, ⟨es, e, _⟩, _⟩ := this; exact .inr (.inl ⟨_, e⟩)
  · obtain ⟨xs, ⟨e, _⟩, _⟩ := this; exact .inr (.inr ⟨(_, _), e⟩)
  · exact this.elim
/-- a tuple is not in the store -/
theorem SqT.out {a : Addr} {vs : List V} {K : PySem.W.Frag} (k : Kinds H μ) (h : SqT K H a vs) : (∃ o, H a = some o ∧ a ∉ μ) ∨ ∀ H', SqT K H' a vs := by
  rcases h with (h | ⟨o, h⟩) | h
  · exact .inl ⟨_, h, fun m => by rcases k a m with ⟨_, e⟩ | ⟨_, e⟩ | ⟨_, e⟩ <;> (rw [h] at e; cases e)⟩
  · exact .inl ⟨_, h, fun m => by rcases k a m with ⟨_, e⟩ | ⟨_, e⟩ | ⟨_, e⟩ <;> (rw [h] at e; cases e)⟩
  · exact .inr fun _ => .inr h
theorem SqT.keep {a : Addr} {vs : List V} {K : PySem.W.Frag} (k : Kinds H μ) (fr : ∀ b o, H b = some o → b ∉ μ → H' b = some o) (h : SqT K H a vs) : SqT K H' a vs := by
  rcases SqT.out k h with ⟨o, e, n⟩ | q
  · have e' := fr a o e n
    rcases h with (h | ⟨o2, h⟩) | h
    · rw [h] at e; cases e; exact .inl (.inl e')
    · rw [h] at e; cases e; exact .inl (.inr ⟨_, e'⟩)
    · exact .inr h
  · exact q H'
theorem FzAt.keep {a : Addr} {vs : List V} {K : PySem.W.Frag} (k : Kinds H μ) (fr : ∀ b o, H b = some o → b ∉ μ → H' b = some o) (h : FzAt K H a vs) : FzAt K H' a vs := by
  rcases h with ⟨o, h⟩ | h
  · exact .inl ⟨o, fr _ _ h fun m => by rcases k a m with ⟨_, e⟩ | ⟨_, e⟩ | ⟨_, e⟩ <;> (rw [h] at e; cases e)⟩
  · exact .inr h
theorem DictAt.keep {a : Addr} {ks : List D} {us : List V} (e : H' a = H a) (h : DictAt H a ks us) : DictAt H' a ks us := by
  obtain ⟨es, h1, h2⟩ := h
  exact ⟨es, e.trans h1, h2⟩
section
variable {ν : List Addr}
mutual
theorem Rep.keepG (k : Kinds H ν) (fr : ∀ b o, H b = some o → b ∉ ν → H' b = some o) (gt : ∀ (n : Nat) a, μ[n]? = some a → μ'[n]? = some a) (hx : ∀ a c, H a = some (excHO c a) → a ∉ μ → a ∉ μ' ∧ a ∉ ν) :
    ∀ (d : D) (v : V) (fp : List Addr), Rep T H μ d v fp → (∀ a ∈ fp, a ∉ ν) → Rep T H' μ' d v fp
  | .non, v, fp, h, _ => h
  | .bl _, v, fp, h, _ => h
  | .int _, v, fp, h, _ => h
  | .str _, v, fp, h, _ => h
  | .tup ds, v, fp, h, n => by
    obtain ⟨a, vs, e, q, r⟩ := h
    exact ⟨a, vs, e, SqT.keep k fr q, Reps.keepG k fr gt hx ds vs fp r n⟩
  | .lst ds, v, fp, h, n => by
    obtain ⟨a, vs, fp', e, q, r, rfl⟩ := h
    exact ⟨a, vs, fp', e, fr _ _ q (n a (by simp)), Reps.keepG k fr gt hx ds vs fp' r fun b hb => n b (List.mem_append_left _ hb), rfl⟩
  | .fz ds, v, fp, h, n => by
    obtain ⟨a, vs, e, q, r, z⟩ := h
    exact ⟨a, vs, e, FzAt.keep k fr q, Reps.keepG k fr gt hx ds vs fp r n, z⟩
  | .dct ks ds, v, fp, h, n => by
    obtain ⟨a, us, fp', e, q, r, rfl⟩ := h
    refine ⟨a, us, fp', e, DictAt.keep ?_ q, Reps.keepG k fr gt hx ds us fp' r fun b hb => n b (List.mem_append_left _ hb), rfl⟩
    obtain ⟨es, q, _⟩ := q
    rw [q]; exact fr _ _ q (n a (by simp))
  | .nd ks ds, v, fp, h, n => by
    obtain ⟨a, xs, fp', e, q, rk, r, rfl⟩ := h
    exact ⟨a, xs, fp', e, ⟨fr _ _ q.1 (n a (by simp)), q.2⟩, Reps.keepG k fr gt hx ks _ _ rk (by simp), Reps.keepG k fr gt hx ds _ fp' r fun b hb => n b (List.mem_append_left _ hb), rfl⟩
  | .ref i, v, fp, h, _ => by
    obtain ⟨a, e, q, z⟩ := h
    exact ⟨a, e, gt _ _ q, z⟩
  | .exc c, v, fp, h, _ => by
    obtain ⟨a, e, q, na, z⟩ := h
    obtain ⟨h1, h2⟩ := hx a _ q na.1
    exact ⟨a, e, fr _ _ q h2, ⟨h1, na.2⟩, z⟩
theorem Reps.keepG (k : Kinds H ν) (fr : ∀ b o, H b = some o → b ∉ ν → H' b = some o) (gt : ∀ (n : Nat) a, μ[n]? = some a → μ'[n]? = some a) (hx : ∀ a c, H a = some (excHO c a) → a ∉ μ → a ∉ μ' ∧ a ∉ ν) :
    ∀ (ds : List D) (vs : List V) (fp : List Addr), Reps T H μ ds vs fp → (∀ a ∈ fp, a ∉ ν) → Reps T H' μ' ds vs fp
  | [], vs, fp, h, _ => h
  | d :: ds, vs, fp, h, n => by
    obtain ⟨v, r, f1, f2, e, h1, h2, rfl⟩ := h
    exact ⟨v, r, f1, f2, e, Rep.keepG k fr gt hx d v f1 h1 fun a ha => n a (List.mem_append_left _ ha), Reps.keepG k fr gt hx ds r f2 h2 fun a ha => n a (List.mem_append_right _ ha), rfl⟩
end
end
theorem Stp.out (s : Stp H μ H' μ') (a : Addr) (o : HO) (e : H a = some o) (n : a ∉ μ) : a ∉ μ' ∧ a ∉ μ := ⟨fun m => (by rw [s.new m n] at e; cases e), n⟩
theorem Rep.keep (k : Kinds H μ) (s : Stp H μ H' μ') (d : D) (v : V) (fp : List Addr) (h : Rep T H μ d v fp) (n : ∀ a ∈ fp, a ∉ μ) : Rep T H' μ' d v fp := Rep.keepG k s.fr (fun _ _ => s.get) (fun a c => s.out a _) d v fp h n
theorem Reps.keep (k : Kinds H μ) (s : Stp H μ H' μ') (ds : List D) (vs : List V) (fp : List Addr) (h : Reps T H μ ds vs fp) (n : ∀ a ∈ fp, a ∉ μ) : Reps T H' μ' ds vs fp := Reps.keepG k s.fr (fun _ _ => s.get) (fun a c => s.out a _) ds vs fp h n
theorem Same.k0 : Kinds H [] := fun _ h => nomatch h
theorem Rep.same (s : Same H H') (d : D) (v : V) (fp : List Addr) (h : Rep T H μ d v fp) : Rep T H' μ d v fp := Rep.keepG Same.k0 (fun b o e _ => s b o e) (fun _ _ e => e) (fun _ _ _ n => ⟨n, by simp⟩) d v fp h (fun _ _ => by simp)
theorem Reps.same (s : Same H H') (ds : List D) (vs : List V) (fp : List Addr) (h : Reps T H μ ds vs fp) : Reps T H' μ ds vs fp := Reps.keepG Same.k0 (fun b o e _ => s b o e) (fun _ _ e => e) (fun _ _ _ n => ⟨n, by simp⟩) ds vs fp h (fun _ _ => by simp)
theorem DictAt.same {a : Addr} {ks : List D} {us : List V} (s : Same H H') (h : DictAt H a ks us) : DictAt H' a ks us := by
  refine DictAt.keep ?_ h
  obtain ⟨es, q, _⟩ := h
  rw [q]; exact s _ _ q
theorem widen_x {e : List Addr} (k : Kinds H e) (a c : Addr) (q : H a = some (excHO c a)) (n : a ∉ μ) : a ∉ μ ++ e ∧ a ∉ ([] : List Addr) := ⟨fun m => (List.mem_append.mp m).elim n fun m => by
  rcases k a m with ⟨_, z⟩ | ⟨_, z⟩ | ⟨_, z⟩
  · rw [q] at z; cases z
  · rw [q] at z; cases z
  · rw [q] at z; exact nd_ne_exc (Option.some.inj z).symm, by simp⟩
theorem widen_g {e : List Addr} (n : Nat) (a : Addr) (h : μ[n]? = some a) : (μ ++ e)[n]? = some a := by
  rw [List.getElem?_append_left (List.getElem?_eq_some_iff.mp h).1]; exact h
theorem Rep.widen {e : List Addr} (k : Kinds H e) (d : D) (v : V) (fp : List Addr) (h : Rep T H μ d v fp) : Rep T H (μ ++ e) d v fp := Rep.keepG Same.k0 (fun b o e _ => e) widen_g (widen_x k) d v fp h (fun _ _ => by simp)
theorem Reps.widen {e : List Addr} (k : Kinds H e) (ds : List D) (vs : List V) (fp : List Addr) (h : Reps T H μ ds vs fp) : Reps T H (μ ++ e) ds vs fp := Reps.keepG Same.k0 (fun b o e _ => e) widen_g (widen_x k) ds vs fp h (fun _ _ => by simp)
theorem StOk.same (s : Same H H') (h : StOk T H μ S) : StOk T H' μ S := ⟨h.len, h.nd, fun n d a h1 h2 => by
  have q := h.at_ n d a h1 h2
  cases d with
  | lst ds => obtain ⟨vs, e, r⟩ := q; exact ⟨vs, s _ _ e, Reps.same s _ _ _ r⟩
  | dct ks ds => obtain ⟨us, e, r⟩ := q; exact ⟨us, DictAt.same s e, Reps.same s _ _ _ r⟩
  | nd ks ds => obtain ⟨xs, e, r1, r2⟩ := q; exact ⟨xs, ⟨s _ _ e.1, e.2⟩, Reps.same s _ _ _ r1, Reps.same s _ _ _ r2⟩
  | _ => exact q.elim⟩
theorem Same.stp (s : Same H H') : Stp H μ H' μ := ⟨⟨[], by simp, by simp⟩, fun b o h _ => s b o h, fun b o h => ⟨o, s b o h⟩⟩
theorem Same.upd {p : Addr} {o : HO} (n : H p = none) : Same H (upd H p o) := fun b u h => by
  rw [upd_ne (ne_of_none h n)]
  exact h
theorem EnvOk.keep {σ : Slots} {ρ : Env} (k : Kinds H μ) (s : Stp H μ H' μ') (h : EnvOk T H μ σ ρ) : EnvOk T H' μ' σ ρ := ⟨h.1, fun i d e => by
  obtain ⟨v, q, r⟩ := h.2 i d e
  exact ⟨v, q, Rep.keep k s d v [] r (by simp)⟩⟩
end
end Ev
end
section
set_option Elab.async false
set_option linter.all false
set_option maxRecDepth 100000
namespace Ev
open PySem PySem.Spec PyProof.Rows L2

/-- a computation came through with what is wanted, or raised as it is wished -/
def Ran {α : Type} (T : Pgm) (W : WX) (σ : Slots) (H : Hp) (μ : List Addr) (m : Option (R α)) (Q : α → Sto → Prop) : Prop := match m with
  | some (.ok a S) => Q a S
  | some (.ex c S) => ∀ H' μ', Stp H μ H' μ' → StOk T H' μ' S → W (.ref (T.C c)) none σ H'
  | none => False
section
variable {α β : Type} {T : Pgm} {W : WX} {σ : Slots} {H H1 : Hp} {μ μ1 : List Addr} {m : Option (R α)} {Q Q' : α → Sto → Prop}
theorem Ran.bnd {f : α → Sto → Option (R β)} {Q : β → Sto → Prop} (h : Ran T W σ H μ (bnd m f) Q) : Ran T W σ H μ m fun a S => Ran T W σ H μ (f a S) Q := by
  match m, h with
  | some (.ok a S), h => exact h
  | some (.ex c S), h => exact h
theorem Ran.imp (h : Ran T W σ H μ m Q) (f : ∀ a S, m = some (.ok a S) → Q a S → Q' a S) : Ran T W σ H μ m Q' := by
  match m, h with
  | some (.ok a S), h => exact f a S rfl h
  | some (.ex c S), h => exact h
theorem Ran.on (h : Ran T W σ H μ m Q) (s : Stp H μ H1 μ1) : Ran T W σ H1 μ1 m Q := by
  match m, h with
  | some (.ok a S), h => exact h
  | some (.ex c S), h => exact fun H' μ' s' => h H' μ' (s.trans s')
theorem Ran.map {x : Option α} {f : α → R β} {Q : β → Sto → Prop} (h : Ran T W σ H μ (x.map f) Q) : ∃ a, x = some a ∧ Ran T W σ H μ (some (f a)) Q := by
  match x, h with
  | some a, h => exact ⟨a, rfl, h⟩
end

/-- behind an expression -/
structure Pst (T : Pgm) (H : Hp) (μ : List Addr) (d : D) (S' : Sto) (v : V) (H' : Hp) (μ' fp : List Addr) : Prop where
  stp : Stp H μ H' μ'
  ok : StOk T H' μ' S'
  rep : Rep T H' μ' d v fp
  nd : (μ' ++ fp).Nodup
  new : ∀ a ∈ fp, H a = none
structure Psts (T : Pgm) (H : Hp) (μ : List Addr) (ds : List D) (S' : Sto) (vs : List V) (H' : Hp) (μ' fp : List Addr) : Prop where
  stp : Stp H μ H' μ'
  ok : StOk T H' μ' S'
  rep : Reps T H' μ' ds vs fp
  nd : (μ' ++ fp).Nodup
  new : ∀ a ∈ fp, H a = none
abbrev Fin1 (T : Pgm) (H : Hp) (μ : List Addr) (Q : VK) : D → Sto → Prop := fun d S' => ∀ v H' μ' fp, Pst T H μ d S' v H' μ' fp → Q v H'
abbrev FinL (T : Pgm) (H : Hp) (μ : List Addr) (Q : List V → Hp → Prop) : List D → Sto → Prop := fun d S' => ∀ v H' μ' fp, Psts T H μ d S' v H' μ' fp → Q v H'
abbrev FinB (T : Pgm) (H : Hp) (μ : List Addr) (Q : Bool → Hp → Prop) : Bool → Sto → Prop := fun b S' => ∀ H' μ', Stp H μ H' μ' → StOk T H' μ' S' → Q b H'
def tEv (T : Pgm) (W : WX) (g : G) (e : PE) : TE := fun σ H Q => ∃ ρ S μ, EnvOk T H μ σ ρ ∧ StOk T H μ S ∧ Ran T W σ H μ (evalE g e ρ S) (Fin1 T H μ Q)
def tEvs (T : Pgm) (W : WX) (g : G) (es : List PE) : TA := fun σ H Q => ∃ ρ S μ, EnvOk T H μ σ ρ ∧ StOk T H μ S ∧ Ran T W σ H μ (evalEs g es ρ S) (FinL T H μ Q)
/-- as a test -/
def testE (m : Option (R D)) : Option (R Bool) := tests m (fun b S => some (.ok b S)) fun c S => some (.ex c S)
def tEvT (T : Pgm) (W : WX) (g : G) (e : PE) : TT := fun σ H Q => ∃ ρ S μ, EnvOk T H μ σ ρ ∧ StOk T H μ S ∧ Ran T W σ H μ (testE (evalE g e ρ S)) (FinB T H μ Q)

theorem PE.mono {X : Cx} {e : Expr} {t t' : TE} (h : L2.PE X e t) (m : ∀ σ H Q, t' σ H Q → t σ H Q) : L2.PE X e t' := ⟨fun pins s σ H Q I q => h.run pins s σ H Q I (m σ H Q q)⟩
theorem PT.mono {X : Cx} {e : Expr} {t t' : TT} (h : PT X e t) (m : ∀ σ H Q, t' σ H Q → t σ H Q) : PT X e t' := ⟨fun pins s σ H Q I q => h.run pins s σ H Q I (m σ H Q q)⟩
theorem PA.mono {X : Cx} {e : List Expr} {t t' : TA} (h : PA X e t) (m : ∀ σ H Q, t' σ H Q → t σ H Q) : PA X e t' := ⟨fun pos pins s σ H Q I q => h.run pos pins s σ H Q I (m σ H Q q)⟩
/-- the rule may be chosen by the reading -/
theorem PE.dep {X : Cx} {e : Expr} {t : TE} (h : ∀ σ H Q, t σ H Q → ∃ t', L2.PE X e t' ∧ t' σ H Q) : L2.PE X e t := ⟨fun pins s σ H Q I q => by
  obtain ⟨t', h1, h2⟩ := h σ H Q q
  exact h1.run pins s σ H Q I h2⟩
theorem PT.dep {X : Cx} {e : Expr} {t : TT} (h : ∀ σ H Q, t σ H Q → ∃ t', PT X e t' ∧ t' σ H Q) : PT X e t := ⟨fun pins s σ H Q I q => by
  obtain ⟨t', h1, h2⟩ := h σ H Q q
  exact h1.run pins s σ H Q I h2⟩
theorem PS.dep {X : Cx} {e : Stmt} {t : TS} (h : ∀ D σ H, t D σ H → ∃ t', L2.PS X e t' ∧ t' D σ H) : L2.PS X e t := ⟨fun pins s σ H D I q => by
  obtain ⟨t', h1, h2⟩ := h D σ H q
  exact h1.run pins s σ H D I h2⟩

section
variable {T : Pgm} {W : WX} {g : G} {σ : Slots} {H H1 H2 : Hp} {μ μ1 μ2 : List Addr} {ρ : Env} {S S1 S2 : Sto} {a b : PE}
theorem StOk.kd (h : StOk T H μ S) : Kinds H μ := h.kinds
theorem nd_left {l1 l2 : List Addr} (h : (l1 ++ l2).Nodup) : l1.Nodup := (List.nodup_append.mp h).1
theorem nd_out {l1 l2 : List Addr} (h : (l1 ++ l2).Nodup) : ∀ x ∈ l2, x ∉ l1 := fun x hx m => (List.nodup_append.mp h).2.2 x m x hx rfl
/-- what is owned ahead of a step is owned behind it -/
theorem nd_step {fp f2 : List Addr} (s : Stp H1 μ1 H2 μ2) (h1 : (μ1 ++ fp).Nodup) (h2 : (μ2 ++ f2).Nodup) (d : ∀ a ∈ fp, ∃ o, H1 a = some o) (n : ∀ a ∈ f2, H1 a = none) : (μ2 ++ (fp ++ f2)).Nodup := by
  obtain ⟨n1, n2, n3⟩ := List.nodup_append.mp h1
  obtain ⟨m1, m2, m3⟩ := List.nodup_append.mp h2
  refine List.nodup_append.mpr ⟨m1, List.nodup_append.mpr ⟨n2, m2, fun x hx y hy e => ?_⟩, fun x hx y hy e => ?_⟩
  · subst e
    obtain ⟨o, ho⟩ := d x hx
    rw [n x hy] at ho; cases ho
  · subst e
    rcases List.mem_append.mp hy with hy | hy
    · by_cases m : x ∈ μ1
      · exact n3 x m x hy rfl
      · obtain ⟨o, ho⟩ := d x hy
        rw [s.new hx m] at ho; cases ho
    · exact m3 x hx x hy rfl
mutual
theorem Rep.there : ∀ (d : D) (v : V) (fp : List Addr), Rep T H μ d v fp → ∀ a ∈ fp, ∃ o, H a = some o
  | .non, _, _, h, a, m => by rw [h.2] at m; cases m
  | .bl _, _, _, h, a, m => by rw [h.2] at m; cases m
  | .int _, _, _, h, a, m => by rw [h.2] at m; cases m
  | .str _, _, _, h, a, m => by rw [h.2] at m; cases m
  | .tup ds, _, fp, h, a, m => by
    obtain ⟨p, vs, _, _, r⟩ := h
    exact Reps.there ds vs fp r a m
  | .lst ds, _, fp, h, a, m => by
    obtain ⟨p, vs, fp', _, q, r, rfl⟩ := h
    rcases List.mem_append.mp m with m | m
    · exact Reps.there ds vs fp' r a m
    · have : a = p := by simpa using m
      subst this; exact ⟨_, q⟩
  | .fz ds, _, fp, h, a, m => by
    obtain ⟨p, vs, _, _, r, z⟩ := h
    rw [z] at m; cases m
  | .dct ks ds, _, fp, h, a, m => by
    obtain ⟨p, vs, fp', _, ⟨es, q, _⟩, r, rfl⟩ := h
    rcases List.mem_append.mp m with m | m
    · exact Reps.there ds vs fp' r a m
    · have : a = p := by simpa using m
      subst this; exact ⟨_, q⟩
  | .nd ks ds, _, fp, h, a, m => by
    obtain ⟨p, xs, fp', _, ⟨q, _⟩, _, r, rfl⟩ := h
    rcases List.mem_append.mp m with m | m
    · exact Reps.there ds _ fp' r a m
    · have : a = p := by simpa using m
      subst this; exact ⟨_, q⟩
  | .ref _, _, fp, h, a, m => by
    obtain ⟨p, _, _, z⟩ := h
    rw [z] at m; cases m
  | .exc _, _, fp, h, a, m => by
    obtain ⟨p, _, _, _, z⟩ := h
    rw [z] at m; cases m
theorem Reps.there : ∀ (ds : List D) (vs : List V) (fp : List Addr), Reps T H μ ds vs fp → ∀ a ∈ fp, ∃ o, H a = some o
  | [], _, fp, h, a, m => by rw [h.2] at m; cases m
  | d :: ds, _, fp, h, a, m => by
    obtain ⟨v, r, f1, f2, _, h1, h2, rfl⟩ := h
    rcases List.mem_append.mp m with m | m
    · exact Rep.there d v f1 h1 a m
    · exact Reps.there ds r f2 h2 a m
end
theorem evr (env : EnvOk T H μ σ ρ) (st : StOk T H μ S) {Q : VK} (h : Ran T W σ H μ (evalE g a ρ S) (Fin1 T H μ Q)) : tEv T W g a σ H Q := ⟨ρ, S, μ, env, st, h⟩
/-- one operand -/
theorem ev1 (env : EnvOk T H μ σ ρ) (st : StOk T H μ S) {K : D → Sto → Prop} {Q : VK} (h : Ran T W σ H μ (evalE g a ρ S) K)
    (f : ∀ x S1 v H1 μ1 fp, Pst T H μ x S1 v H1 μ1 fp → K x S1 → Q v H1) : tEv T W g a σ H Q :=
  ⟨ρ, S, μ, env, st, h.imp fun x S1 _ k v H1 μ1 fp p => f x S1 v H1 μ1 fp p k⟩
/-- two operands -/
theorem ev2 (env : EnvOk T H μ σ ρ) (st : StOk T H μ S) {K : D → D → Sto → Prop} {Q : V → V → Hp → Prop} (h : Ran T W σ H μ (evalE g a ρ S) fun x S1 => Ran T W σ H μ (evalE g b ρ S1) fun y S2 => K x y S2)
    (f : ∀ x y S2 u v H2 μ2 f1 f2, Psts T H μ [x, y] S2 [u, v] H2 μ2 (f1 ++ f2) → Rep T H2 μ2 x u f1 → Rep T H2 μ2 y v f2 → K x y S2 → Q u v H2) : tEv T W g a σ H fun u H1 => tEv T W g b σ H1 fun v H2 => Q u v H2 := by
  refine ev1 env st h fun x S1 u H1 μ1 f1 p1 k => ?_
  have kd := st.kinds
  refine ev1 (env.keep kd p1.stp) p1.ok (k.on p1.stp) fun y S2 v H2 μ2 f2 p2 k2 => ?_
  have r1 : Rep T H2 μ2 x u f1 := Rep.keep p1.ok.kinds p2.stp x u f1 p1.rep (nd_out p1.nd)
  refine f x y S2 u v H2 μ2 f1 f2 ⟨p1.stp.trans p2.stp, p2.ok, ⟨u, [v], f1, f2, rfl, r1, ⟨v, [], f2, [], rfl, p2.rep, ⟨rfl, rfl⟩, by simp⟩, rfl⟩, ?_, fun a m => ?_⟩ r1 p2.rep k2
  · exact nd_step p2.stp p1.nd p2.nd (Rep.there x u f1 p1.rep) p2.new
  · rcases List.mem_append.mp m with m | m
    · exact p1.new a m
    · exact p1.stp.free (p2.new a m)
/-- a value that holds nothing alone -/
theorem Pst.flat {d : D} {v : V} (s : Stp H μ H1 μ1) (ok : StOk T H1 μ1 S) (r : Rep T H1 μ1 d v []) : Pst T H μ d S v H1 μ1 [] := ⟨s, ok, r, by simpa using ok.nd, by simp⟩
end

/-! ### what the text is, and where one stands -/
structure CC where
  N : List Str
  fnames : List Str
  cnames : List Str
  consts : List (Str × D)
  sc : Scope
  md : Bool
  nq : Nat
  top : Bool
def vis (sc : Scope) (x : Str) : Bool := match sc.names.lookup x with
  | some .local => true
  | some .cell => true
  | some .free => true
  | _ => false
theorem vis_ok {sc : Scope} {x : Str} (h : vis sc x = true) : Vis sc x := by
  unfold vis at h
  split at h
  · exact .inl (by assumption)
  · exact .inr (.inl (by assumption))
  · exact .inr (.inr (by assumption))
  · cases h
def glob (sc : Scope) (x : Str) : Bool := decide (sc.names.lookup x = some .globalImplicit) && decide (x ≠ "__debug__") && decide (x ≠ "__name__")
def all2 {α β : Type} (f : α → β → Bool) : List α → List β → Bool
  | [], [] => true
  | a :: as, b :: bs => f a b && all2 f as bs
  | _, _ => false
def noStar : Expr → Bool
  | .Starred _ _ => false
  | _ => true
theorem star_of {e : Expr} {es : List Expr} {env : PySem.Env} (h : noStar e = true) : starEach (e :: es) env = (false, eval e env) :: starEach es env := by
  cases e <;> first | rfl | cases h
theorem stars_none {es : List Expr} {env : PySem.Env} {pos : Pos} (h : es.all noStar = true) : (backTo pos (starEach es env)).any (·.1) = false := by
  induction es with
  | nil => rfl
  | cons e es ih =>
    rw [List.all_cons, Bool.and_eq_true] at h
    rw [star_of h.1]
    unfold backTo
    rw [List.map_cons, List.any_cons]
    simp only [Bool.false_or]
    exact ih h.2
theorem stars_all {es : List Expr} {env : PySem.Env} {pos : Pos} (h : es.all noStar = true) : (backTo pos (starEach es env)).all (fun x => !x.1) = true := by
  induction es with
  | nil => rfl
  | cons e es ih =>
    rw [List.all_cons, Bool.and_eq_true] at h
    rw [star_of h.1]
    unfold backTo
    rw [List.map_cons, List.all_cons]
    simp only [Bool.not_false, Bool.true_and]
    exact ih h.2
/-- a test that is its value's truth -/
def plainTest : Expr → Bool
  | .UnaryOp .Not _ _ => false
  | .BoolOp _ _ _ => false
  | .IfExp _ _ _ _ => false
  | .Compare _ _ _ _ => false
  | _ => true
theorem test_of {e : Expr} {env : PySem.Env} (h : plainTest e = true) : ∀ whole, isTrue e env whole = (do let v ← whole; standAt e.pos; holding [v] (truthy v)) := by
  intro whole
  cases e with
  | UnaryOp op x p => cases op <;> first | rfl | cases h
  | _ => first | rfl | cases h
end Ev
end
section
set_option Elab.async false
set_option linter.all false
set_option maxRecDepth 100000
namespace Ev
open PySem PySem.Spec PyProof.Rows L2
abbrev tOf (X : Cx) (C : Nat → Addr) : Pgm := ⟨X.K, X.w, C⟩
/-- what a step from values gives -/
abbrev Out (T : Pgm) (H : Hp) (μ : List Addr) (S : Sto) (z : D) (own : List Addr) (Q : VK) : Prop :=
  ∀ v H' fp, Same H H' → Rep T H' μ z v fp → (μ ++ fp).Nodup → (∀ a ∈ fp, a ∈ own ∨ H a = none) → Q v H'
structure In2 (T : Pgm) (H : Hp) (μ : List Addr) (S : Sto) (d e : D) (x y : V) (f1 f2 : List Addr) : Prop where
  r1 : Rep T H μ d x f1
  r2 : Rep T H μ e y f2
  ok : StOk T H μ S
  nd : (μ ++ (f1 ++ f2)).Nodup
def opOf : Bin → Operator
  | .add => .Add
  | .sub => .Sub
  | .mul => .Mult
  | .fdiv => .FloorDiv
  | .mod => .Mod
  | .pow => .Pow
def rBin (T : Pgm) (o : Bin) : R2 := fun x y H Q => ∃ d e S μ f1 f2 z, In2 T H μ S d e x y f1 f2 ∧ binE S o d e = some z ∧ Out T H μ S z (f1 ++ f2) Q
section
variable {T : Pgm} {H H' : Hp} {μ : List Addr} {S : Sto}
theorem Reps.len : ∀ (ds : List D) (vs : List V) (fp : List Addr), Reps T H μ ds vs fp → vs.length = ds.length
  | [], _, _, h => by rw [h.1]; rfl
  | d :: ds, _, _, h => by
    obtain ⟨v, r, f1, f2, rfl, h1, h2, rfl⟩ := h
    rw [List.length_cons, List.length_cons, Reps.len ds r f2 h2]
theorem Reps.append : ∀ (as bs : List D) (us vs : List V) (f1 f2 : List Addr), Reps T H μ as us f1 → Reps T H μ bs vs f2 → Reps T H μ (as ++ bs) (us ++ vs) (f1 ++ f2)
  | [], bs, us, vs, f1, f2, h1, h2 => by obtain ⟨rfl, rfl⟩ := h1; exact h2
  | a :: as, bs, us, vs, f1, f2, h1, h2 => by
    obtain ⟨v, r, g1, g2, rfl, h3, h4, rfl⟩ := h1
    exact ⟨v, r ++ vs, g1, g2 ++ f2, rfl, h3, Reps.append as bs r vs g2 f2 h4 h2, by rw [List.append_assoc]⟩
/-- a list that may be written: the object's items -/
theorem mut_at {d : D} {v : V} {fp : List Addr} {ds : List D} (ok : StOk T H μ S) (r : Rep T H μ d v fp) (e : mutOf S d = some ds) : ∃ a vs f1, v = .ref a ∧ H a = some (.lst vs) ∧ Reps T H μ ds vs f1 ∧ f1.Sublist fp := by
  unfold mutOf at e
  split at e
  · cases e
    obtain ⟨a, vs, f1, rfl, q, r, rfl⟩ := r
    exact ⟨a, vs, f1, rfl, q, r, List.sublist_append_left _ _⟩
  · rename_i n
    split at e
    · rename_i ds' hS
      cases e
      obtain ⟨a, rfl, hm, rfl⟩ := r
      obtain ⟨vs, q, r⟩ := ok.at_ n _ a hS hm
      exact ⟨a, vs, [], rfl, q, r, List.Sublist.refl _⟩
    · cases e
  · cases e
theorem nd_sub {l1 l2 l3 : List Addr} (h : (l1 ++ l2).Nodup) (s : l3.Sublist l2) : (l1 ++ l3).Nodup := h.sublist (List.Sublist.append (List.Sublist.refl _) s)
/-- a new list of these values -/
theorem out_lst {ds : List D} {vs : List V} {fp own : List Addr} {Q : VK} (ok : StOk T H μ S) (r : Reps T H μ ds vs fp) (nd : (μ ++ fp).Nodup) (ow : ∀ a ∈ fp, a ∈ own) (q : Out T H μ S (.lst ds) own Q) : ∀ p, H p = none → Q (.ref p) (upd H p (.lst vs)) := fun p np => by
  have hp : p ∉ fp := fun m => by
    obtain ⟨o, e⟩ := Reps.there ds vs fp r p m
    rw [np] at e; cases e
  have hm : p ∉ μ := fun m => by
    rcases ok.kinds p m with ⟨_, e⟩ | ⟨_, e⟩ | ⟨_, e⟩ <;> (rw [np] at e; cases e)
  refine q _ _ (fp ++ [p]) (Same.upd np) ⟨p, vs, fp, rfl, upd_same, Reps.same (Same.upd np) _ _ _ r, rfl⟩ ?_ fun a m => ?_
  · rw [← List.append_assoc]
    refine List.nodup_append.mpr ⟨nd, by simp, fun a ha b hb e => ?_⟩
    have : b = p := by simpa using hb
    subst this; subst e
    exact (List.mem_append.mp ha).elim hm hp
  · rcases List.mem_append.mp m with m | m
    · exact .inl (ow a m)
    · have : a = p := by simpa using m
      subst this; exact .inr np
/-- a new tuple of these values -/
theorem out_tup {ds : List D} {vs : List V} {fp own : List Addr} {Q : VK} (r : Reps T H μ ds vs fp) (nd : (μ ++ fp).Nodup) (ow : ∀ a ∈ fp, a ∈ own) (q : Out T H μ S (.tup ds) own Q) : ∀ p, H p = none → Q (.ref p) (upd H p (.tup vs)) := fun p np =>
  q _ _ fp (Same.upd np) ⟨p, vs, rfl, .inl (.inl upd_same), Reps.same (Same.upd np) _ _ _ r⟩ nd fun a m => .inl (ow a m)
theorem out_flat {z : D} {v : V} {own : List Addr} {Q : VK} (ok : StOk T H μ S) (r : Rep T H μ z v []) (q : Out T H μ S z own Q) : Q v H := q v H [] (fun _ _ e => e) r (by simpa using ok.nd) (by simp)
theorem out_int {i : Int} {own : List Addr} {Q : VK} (ok : StOk T H μ S) (q : Out T H μ S (.int i) own Q) : Q (.int i) H := out_flat ok (show Rep T H μ (.int i) (.int i) [] from ⟨rfl, rfl⟩) q
theorem out_str {i : Str} {own : List Addr} {Q : VK} (ok : StOk T H μ S) (q : Out T H μ S (.str i) own Q) : Q (.str i) H := out_flat ok (show Rep T H μ (.str i) (.str i) [] from ⟨rfl, rfl⟩) q
theorem out_bl {i : Bool} {own : List Addr} {Q : VK} (ok : StOk T H μ S) (q : Out T H μ S (.bl i) own Q) : Q (.bl i) H := out_flat ok (show Rep T H μ (.bl i) (.bl i) [] from ⟨rfl, rfl⟩) q
theorem out_non {own : List Addr} {Q : VK} (ok : StOk T H μ S) (q : Out T H μ S .non own Q) : Q .non H := out_flat ok (show Rep T H μ .non .non [] from ⟨rfl, rfl⟩) q
theorem sub_l {l1 l2 l3 : List Addr} (s : l1.Sublist l2) : l1.Sublist (l2 ++ l3) := s.trans (List.sublist_append_left _ _)
mutual
/-- what is settled holds nothing alone -/
theorem Rep.settled : ∀ (d : D) (v : V) (fp : List Addr), Rep T H μ d v fp → d.settled = true → fp = []
  | .non, _, _, h, _ => h.2
  | .bl _, _, _, h, _ => h.2
  | .int _, _, _, h, _ => h.2
  | .str _, _, _, h, _ => h.2
  | .tup ds, _, fp, h, s => by
    obtain ⟨a, vs, _, _, r⟩ := h
    exact Reps.settled ds vs fp r s
  | .fz _, _, _, h, _ => by obtain ⟨_, _, _, _, _, z⟩ := h; exact z
  | .ref _, _, _, h, _ => by obtain ⟨_, _, _, z⟩ := h; exact z
  | .exc _, _, _, h, _ => by obtain ⟨_, _, _, _, z⟩ := h; exact z
  | .lst _, _, _, _, s => nomatch s
  | .dct _ _, _, _, _, s => nomatch s
  | .nd _ _, _, _, _, s => nomatch s
theorem Reps.settled : ∀ (ds : List D) (vs : List V) (fp : List Addr), Reps T H μ ds vs fp → settleds ds = true → fp = []
  | [], _, _, h, _ => h.2
  | d :: ds, _, _, h, s => by
    obtain ⟨v, r, f1, f2, rfl, h1, h2, rfl⟩ := h
    obtain ⟨s1, s2⟩ := Bool.and_eq_true_iff.mp (show (d.settled && settleds ds) = true from s)
    rw [Rep.settled d v f1 h1 s1, Reps.settled ds r f2 h2 s2]; rfl
end
theorem Reps.rep {ds : List D} {vs : List V} (r : Reps T H μ ds vs []) : ∀ k : Nat, Reps T H μ (List.replicate k ds).flatten (List.replicate k vs).flatten []
  | 0 => ⟨rfl, rfl⟩
  | k + 1 => by
    rw [List.replicate_succ, List.replicate_succ, List.flatten_cons, List.flatten_cons]
    exact Reps.append _ _ _ _ _ _ r (Reps.rep r k)
end
theorem foldl_rep_nat (l : List Nat) : ∀ (k : Nat) (acc : List Nat), List.foldl (fun x1 x2 => x1 ++ x2) acc.toArray (List.replicate k l.toArray) = (acc ++ (List.replicate k l).flatten).toArray
  | 0, acc => by simp
  | k + 1, acc => by
    have e : acc.toArray ++ l.toArray = (acc ++ l).toArray := by simp
    rw [List.replicate_succ, List.foldl_cons, e, foldl_rep_nat l k, List.replicate_succ, List.flatten_cons, List.append_assoc]
section
variable {X : Cx} {C : Nat → Addr}
theorem op_mulS : OpR X (binaryOp .Mult) (fun x y H Q => ∃ z n, x = .str z ∧ y = .int n ∧ 0 ≤ n ∧ n ≤ 10000 ∧ z.length ≤ 1000 ∧ Q (.str (repS n z)) H) := by
  intro pins s σ H x y v u Q I rx ry ⟨z, n, e1, e2, h0, h1, h2, q⟩
  subst e1; subst e2
  obtain ⟨t, rfl⟩ := rx
  obtain ⟨t', rfl⟩ := ry
  have fin : ∀ w : Str, w = repS n z → ∀ t k, EP X pins σ Q (.str w t) { s with toks := k } := fun w e t k => ⟨.str (repS n z), H, I.tok _, ⟨t, by rw [e]⟩, q⟩
  have hlen : z.length * n.toNat ≤ 10000000 := by
    have : n.toNat ≤ 10000 := by omega
    calc z.length * n.toNat ≤ 1000 * 10000 := Nat.mul_le_mul h2 this
      _ = 10000000 := rfl
  refine PySem.P.mul_str ?_ (fun a b => ?_) (fun a b => ?_) ?_
  · have a1 : ¬ n < -(2 ^ 63 : Int) := by omega
    have a2 : ¬ n ≥ 2 ^ 63 := by omega
    rw [decide_eq_false a1, decide_eq_false a2]; rfl
  · have h4 : (z.length : Int) ≤ 1000 := by omega
    have h3 : (z.length : Int) ≤ (2 ^ 63 - 1 : Int) / n := (Int.le_ediv_iff_mul_le (by omega)).mpr (by
      have h6 : (z.length : Int) * n ≤ 1000 * 10000 := Int.mul_le_mul h4 h1 h0 (by decide)
      omega)
    omega
  · unfold Builtin.Str.tooLong
    rw [decide_eq_false_iff_not]
    have : sizeLine = 16777216 := by decide
    omega
  · split
    · rename_i hn
      have e0 : n = 0 := by omega
      refine ⟨by decide, fin _ ?_ _ _⟩
      subst e0
      show Str.empty = repS 0 z
      unfold repS Str.empty
      simp
    · rename_i hn
      split
      · rename_i hb
        show EP X pins σ Q (.str z t) s
        refine ⟨.str (repS n z), H, I, ⟨t, ?_⟩, q⟩
        have : repS n z = z := by
          rcases Bool.or_eq_true_iff.mp hb with hb | hb
          · have e1 : n = 1 := by simpa using hb
            subst e1
            unfold repS
            simp
          · have e1 : z.cps.size = 0 := by simpa [Str.length] using hb
            have e2 : z.cps = #[] := Array.eq_empty_of_size_eq_zero e1
            unfold repS
            rw [e2]
            cases z with
            | mk c =>
              have e3 : c = #[] := e2
              subst e3
              simp
        rw [this]
      · rename_i hb
        refine ⟨?_, fin _ ?_ _ _⟩
        · have e := foldl_rep_nat z.cps.toList n.toNat []
          simp only [List.nil_append, Array.toArray_toList] at e
          rw [e]
          have hs : sizeLine = 16777216 := by decide
          show ((List.replicate n.toNat z.cps.toList).flatten.toArray).size ≤ sizeLine
          have e2 : z.cps.toList.length = z.length := by simp [Str.length]
          rw [List.size_toArray, List.length_flatten, List.map_replicate, List.sum_replicate_nat, e2, hs, Nat.mul_comm]
          omega
        · unfold repS
          have := foldl_rep_nat z.cps.toList n.toNat []
          simp only [List.nil_append, Array.toArray_toList] at this
          rw [← this]
theorem op_fdivA : OpR X (binaryOp .FloorDiv) (rI (fun _ j => j ≠ 0 ∧ j.natAbs.log2 < 9000) fun i j => .int (i.fdiv j)) := opI fun i j _ _ _ _ _ hc q => floordiv_int hc.1 q (.inl (PyProof.noPylong_of_log2 hc.2))
theorem op_bin : ∀ o : Bin, OpR X (binaryOp (opOf o)) (rBin (tOf X C) o) := by
  intro o pins s σ H x y v u Q I rx ry ⟨d, e, S, μ, f1, f2, z, i, b, q⟩
  unfold binE at b
  split at b
  · cases b
    obtain ⟨rfl, rfl⟩ := i.r1; obtain ⟨rfl, rfl⟩ := i.r2
    exact op_add pins s σ H _ _ v u Q I rx ry ⟨_, _, rfl, rfl, out_int i.ok q⟩
  · split at b
    · rename_i hl
      cases b
      obtain ⟨rfl, rfl⟩ := i.r1; obtain ⟨rfl, rfl⟩ := i.r2
      exact op_add_str pins s σ H _ _ v u Q I rx ry ⟨_, _, rfl, rfl, of_decide_eq_true hl, out_str i.ok q⟩
    · cases b
  · split at b
    · rename_i as bs hl
      cases b
      obtain ⟨p1, vs, rfl, s1, r1⟩ := i.r1
      obtain ⟨p2, us, rfl, s2, r2⟩ := i.r2
      have ll : vs.length + us.length ≤ sizeLine := by
        rw [Reps.len _ _ _ r1, Reps.len _ _ _ r2]; exact of_decide_eq_true hl
      refine op_catA pins s σ H _ _ v u Q I rx ry ⟨p1, p2, vs, us, rfl, rfl, s1, s2, ll, fun e0 => ?_, fun _ e0 => ?_, fun _ _ => ?_⟩
      · subst e0
        have ea : as = [] := List.eq_nil_of_length_eq_zero (by rw [← Reps.len _ _ _ r1]; rfl)
        subst ea
        obtain ⟨_, rfl⟩ := r1
        exact q _ H f2 (fun _ _ e => e) ⟨p2, us, rfl, s2, r2⟩ (by simpa using i.nd) fun a m => .inl (by simpa using m)
      · subst e0
        have ea : bs = [] := List.eq_nil_of_length_eq_zero (by rw [← Reps.len _ _ _ r2]; rfl)
        subst ea
        obtain ⟨_, rfl⟩ := r2
        refine q _ H f1 (fun _ _ e => e) ⟨p1, vs, rfl, s1, by simpa using r1⟩ (by simpa using i.nd) fun a m => .inl (by simpa using m)
      · exact out_tup (Reps.append _ _ _ _ _ _ r1 r2) i.nd (fun a m => m) q
    · cases b
  · split at b
    · rename_i as bs h1 h2
      split at b
      · rename_i hl
        cases b
        obtain ⟨p1, vs, g1, rfl, s1, r1, t1⟩ := mut_at i.ok i.r1 h1
        obtain ⟨p2, us, g2, rfl, s2, r2, t2⟩ := mut_at i.ok i.r2 h2
        have ll : vs.length + us.length ≤ sizeLine := by
          rw [Reps.len _ _ _ r1, Reps.len _ _ _ r2]; exact of_decide_eq_true hl
        have sb := List.Sublist.append t1 t2
        exact op_cat pins s σ H _ _ v u Q I rx ry ⟨p1, p2, vs, us, rfl, rfl, s1, s2, ll, out_lst i.ok (Reps.append _ _ _ _ _ _ r1 r2) (nd_sub i.nd sb) (fun a m => sb.mem m) q⟩
      · cases b
    · cases b
  · cases b
    obtain ⟨rfl, rfl⟩ := i.r1; obtain ⟨rfl, rfl⟩ := i.r2
    exact op_sub pins s σ H _ _ v u Q I rx ry ⟨_, _, rfl, rfl, out_int i.ok q⟩
  · split at b
    · rename_i hl
      cases b
      obtain ⟨rfl, rfl⟩ := i.r1; obtain ⟨rfl, rfl⟩ := i.r2
      exact op_mulW pins s σ H _ _ v u Q I rx ry ⟨_, _, rfl, rfl, show _ < _ from of_decide_eq_true hl, out_int i.ok q⟩
    · cases b
  · split at b
    · rename_i hl
      cases b
      simp only [Bool.and_eq_true, decide_eq_true_eq] at hl
      obtain ⟨rfl, rfl⟩ := i.r1; obtain ⟨rfl, rfl⟩ := i.r2
      exact op_mulS pins s σ H _ _ v u Q I rx ry ⟨_, _, rfl, rfl, hl.1.1, hl.1.2, hl.2, out_str i.ok q⟩
    · cases b
  · split at b
    · rename_i as n hl
      cases b
      simp only [Bool.and_eq_true, decide_eq_true_eq, Bool.not_eq_true', List.isEmpty_eq_false_iff] at hl
      obtain ⟨⟨⟨⟨l1, l2⟩, l3⟩, l4⟩, l5⟩ := hl
      obtain ⟨p1, vs, rfl, s1, r1⟩ := i.r1
      obtain ⟨rfl, rfl⟩ := i.r2
      have e1 := Reps.settled _ _ _ r1 l5
      subst e1
      refine op_repT pins s σ H _ _ v u Q I rx ry ⟨p1, n, vs, rfl, rfl, s1, fun e => ?_, l1, l2, by rw [Reps.len _ _ _ r1]; exact l3, ?_⟩
      · subst e
        exact l4 (List.eq_nil_of_length_eq_zero (by rw [← Reps.len _ _ _ r1]; rfl))
      · exact out_tup (Reps.rep r1 _) (by simpa using i.ok.nd) (by simp) q
    · cases b
  · split at b
    · rename_i hl
      cases b
      obtain ⟨h1, h2⟩ := Bool.and_eq_true_iff.mp hl
      obtain ⟨rfl, rfl⟩ := i.r1; obtain ⟨rfl, rfl⟩ := i.r2
      exact op_fdivA pins s σ H _ _ v u Q I rx ry ⟨_, _, rfl, rfl, ⟨of_decide_eq_true h1, of_decide_eq_true h2⟩, out_int i.ok q⟩
    · cases b
  · split at b
    · rename_i hl
      cases b
      obtain ⟨rfl, rfl⟩ := i.r1; obtain ⟨rfl, rfl⟩ := i.r2
      exact op_modN pins s σ H _ _ v u Q I rx ry ⟨_, _, rfl, rfl, of_decide_eq_true hl, out_int i.ok q⟩
    · cases b
  · split at b
    · rename_i hl
      cases b
      simp only [Bool.and_eq_true, decide_eq_true_eq] at hl
      obtain ⟨rfl, rfl⟩ := i.r1; obtain ⟨rfl, rfl⟩ := i.r2
      exact op_pow pins s σ H _ _ v u Q I rx ry ⟨_, _, rfl, rfl, ⟨hl.1.1, hl.1.2, hl.2⟩, out_int i.ok q⟩
    · cases b
  · cases b
end
end Ev
end
section
set_option Elab.async false
set_option linter.all false
set_option maxRecDepth 100000
namespace Ev
open PySem PySem.Spec PyProof.Rows L2 PySem.SeqAt
mutual
/-- the value u is the data x in the heap -/
def Tree (h : Heap) : D → Value → Prop
  | .non, u => u = .none
  | .bl b, u => u = .bool b
  | .int i, u => ∃ t, u = .int i t
  | .str x, u => ∃ t, u = .str x t
  | .tup ds, u => ∃ a its, u = .ref a ∧ h.IsTuple a its ∧ Trees h ds its.toList
  | .lst ds, u => ∃ a its, u = .ref a ∧ h.IsList a its ∧ Trees h ds its.toList
  | _, _ => False
def Trees (h : Heap) : List D → List Value → Prop
  | [], us => us = []
  | d :: ds, us => ∃ u r, us = u :: r ∧ Tree h d u ∧ Trees h ds r
end
theorem Trees.length {h : Heap} : ∀ (ds : List D) (us : List Value), Trees h ds us → us.length = ds.length
  | [], _, e => by rw [e]; rfl
  | d :: ds, _, e => by
    obtain ⟨u, r, rfl, _, q⟩ := e
    rw [List.length_cons, List.length_cons, Trees.length ds r q]
theorem IsTuple.inj {h : Heap} {a : Addr} {i j : Array Value} (x : h.IsTuple a i) (y : h.IsTuple a j) : i = j := by
  obtain ⟨o, e, _, n, d⟩ := x
  obtain ⟨o', e', _, n', d'⟩ := y
  rw [e] at e'; cases e'; rw [d] at d'; cases d'; rfl
theorem IsList.inj {h : Heap} {a : Addr} {i j : Array Value} (x : h.IsList a i) (y : h.IsList a j) : i = j := by
  obtain ⟨o, e, _, n, d⟩ := x
  obtain ⟨o', e', _, n', d'⟩ := y
  rw [e] at e'; cases e'; rw [d] at d'; cases d'; rfl
mutual
theorem Tree.unique {h : Heap} : ∀ (x y : D) (u : Value), Tree h x u → Tree h y u → x = y
  | .non, .non, u, _, _ => rfl
  | .non, .bl b, u, ha, hb => by
    have ea : u = Value.none := ha
    have eb : u = Value.bool b := hb
    rw [ea] at eb; cases eb
  | .non, .int b, u, ha, hb => by
    have ea : u = Value.none := ha
    obtain ⟨tb, eb⟩ := hb
    rw [ea] at eb; cases eb
  | .non, .str b, u, ha, hb => by
    have ea : u = Value.none := ha
    obtain ⟨tb, eb⟩ := hb
    rw [ea] at eb; cases eb
  | .non, .tup bs, u, ha, hb => by
    have ea : u = Value.none := ha
    obtain ⟨lb, ib, eb, qb, rb⟩ := hb
    rw [ea] at eb; cases eb
  | .non, .lst bs, u, ha, hb => by
    have ea : u = Value.none := ha
    obtain ⟨lb, ib, eb, qb, rb⟩ := hb
    rw [ea] at eb; cases eb
  | .bl a, .non, u, ha, hb => by
    have ea : u = Value.bool a := ha
    have eb : u = Value.none := hb
    rw [ea] at eb; cases eb
  | .bl a, .bl b, u, ha, hb => by
    cases (show u = Value.bool a from ha)
    cases (show Value.bool a = Value.bool b from hb)
    rfl
  | .bl a, .int b, u, ha, hb => by
    have ea : u = Value.bool a := ha
    obtain ⟨tb, eb⟩ := hb
    rw [ea] at eb; cases eb
  | .bl a, .str b, u, ha, hb => by
    have ea : u = Value.bool a := ha
    obtain ⟨tb, eb⟩ := hb
    rw [ea] at eb; cases eb
  | .bl a, .tup bs, u, ha, hb => by
    have ea : u = Value.bool a := ha
    obtain ⟨lb, ib, eb, qb, rb⟩ := hb
    rw [ea] at eb; cases eb
  | .bl a, .lst bs, u, ha, hb => by
    have ea : u = Value.bool a := ha
    obtain ⟨lb, ib, eb, qb, rb⟩ := hb
    rw [ea] at eb; cases eb
  | .int a, .non, u, ha, hb => by
    obtain ⟨ta, ea⟩ := ha
    have eb : u = Value.none := hb
    rw [ea] at eb; cases eb
  | .int a, .bl b, u, ha, hb => by
    obtain ⟨ta, ea⟩ := ha
    have eb : u = Value.bool b := hb
    rw [ea] at eb; cases eb
  | .int a, .int b, u, ha, hb => by
    obtain ⟨ta, rfl⟩ := ha
    obtain ⟨tb, e⟩ := hb
    cases e
    rfl
  | .int a, .str b, u, ha, hb => by
    obtain ⟨ta, ea⟩ := ha
    obtain ⟨tb, eb⟩ := hb
    rw [ea] at eb; cases eb
  | .int a, .tup bs, u, ha, hb => by
    obtain ⟨ta, ea⟩ := ha
    obtain ⟨lb, ib, eb, qb, rb⟩ := hb
    rw [ea] at eb; cases eb
  | .int a, .lst bs, u, ha, hb => by
    obtain ⟨ta, ea⟩ := ha
    obtain ⟨lb, ib, eb, qb, rb⟩ := hb
    rw [ea] at eb; cases eb
  | .str a, .non, u, ha, hb => by
    obtain ⟨ta, ea⟩ := ha
    have eb : u = Value.none := hb
    rw [ea] at eb; cases eb
  | .str a, .bl b, u, ha, hb => by
    obtain ⟨ta, ea⟩ := ha
    have eb : u = Value.bool b := hb
    rw [ea] at eb; cases eb
  | .str a, .int b, u, ha, hb => by
    obtain ⟨ta, ea⟩ := ha
    obtain ⟨tb, eb⟩ := hb
    rw [ea] at eb; cases eb
  | .str a, .str b, u, ha, hb => by
    obtain ⟨ta, rfl⟩ := ha
    obtain ⟨tb, e⟩ := hb
    cases e
    rfl
  | .str a, .tup bs, u, ha, hb => by
    obtain ⟨ta, ea⟩ := ha
    obtain ⟨lb, ib, eb, qb, rb⟩ := hb
    rw [ea] at eb; cases eb
  | .str a, .lst bs, u, ha, hb => by
    obtain ⟨ta, ea⟩ := ha
    obtain ⟨lb, ib, eb, qb, rb⟩ := hb
    rw [ea] at eb; cases eb
  | .tup as, .non, u, ha, hb => by
    obtain ⟨la, ia, ea, qa, ra⟩ := ha
    have eb : u = Value.none := hb
    rw [ea] at eb; cases eb
  | .tup as, .bl b, u, ha, hb => by
    obtain ⟨la, ia, ea, qa, ra⟩ := ha
    have eb : u = Value.bool b := hb
    rw [ea] at eb; cases eb
  | .tup as, .int b, u, ha, hb => by
    obtain ⟨la, ia, ea, qa, ra⟩ := ha
    obtain ⟨tb, eb⟩ := hb
    rw [ea] at eb; cases eb
  | .tup as, .str b, u, ha, hb => by
    obtain ⟨la, ia, ea, qa, ra⟩ := ha
    obtain ⟨tb, eb⟩ := hb
    rw [ea] at eb; cases eb
  | .tup as, .tup bs, u, ha, hb => by
    obtain ⟨la, ia, rfl, qa, ra⟩ := ha
    obtain ⟨lb, ib, e, qb, rb⟩ := hb
    cases e
    cases IsTuple.inj qa qb
    rw [Trees.unique as bs _ ra rb]
  | .tup as, .lst bs, u, ha, hb => by
    obtain ⟨la, ia, ea, qa, ra⟩ := ha
    obtain ⟨lb, ib, eb, qb, rb⟩ := hb
    exfalso; rw [ea] at eb; cases eb; obtain ⟨o, h1, h2, _⟩ := qa; obtain ⟨o2, h3, h4, _⟩ := qb; rw [h1] at h3; cases h3; rw [h2] at h4; exact absurd h4 (by decide)
  | .lst as, .non, u, ha, hb => by
    obtain ⟨la, ia, ea, qa, ra⟩ := ha
    have eb : u = Value.none := hb
    rw [ea] at eb; cases eb
  | .lst as, .bl b, u, ha, hb => by
    obtain ⟨la, ia, ea, qa, ra⟩ := ha
    have eb : u = Value.bool b := hb
    rw [ea] at eb; cases eb
  | .lst as, .int b, u, ha, hb => by
    obtain ⟨la, ia, ea, qa, ra⟩ := ha
    obtain ⟨tb, eb⟩ := hb
    rw [ea] at eb; cases eb
  | .lst as, .str b, u, ha, hb => by
    obtain ⟨la, ia, ea, qa, ra⟩ := ha
    obtain ⟨tb, eb⟩ := hb
    rw [ea] at eb; cases eb
  | .lst as, .tup bs, u, ha, hb => by
    obtain ⟨la, ia, ea, qa, ra⟩ := ha
    obtain ⟨lb, ib, eb, qb, rb⟩ := hb
    exfalso; rw [ea] at eb; cases eb; obtain ⟨o, h1, h2, _⟩ := qa; obtain ⟨o2, h3, h4, _⟩ := qb; rw [h1] at h3; cases h3; rw [h2] at h4; exact absurd h4 (by decide)
  | .lst as, .lst bs, u, ha, hb => by
    obtain ⟨la, ia, rfl, qa, ra⟩ := ha
    obtain ⟨lb, ib, e, qb, rb⟩ := hb
    cases e
    cases IsList.inj qa qb
    rw [Trees.unique as bs _ ra rb]
  | .dct _ _, _, u, ha, _ => ha.elim
  | .nd _ _, _, u, ha, _ => ha.elim
  | .fz _, _, u, ha, _ => ha.elim
  | .ref _, _, u, ha, _ => ha.elim
  | .exc _, _, u, ha, _ => ha.elim
  | .non, .dct _ _, u, _, hb => hb.elim
  | .non, .nd _ _, u, _, hb => hb.elim
  | .non, .fz _, u, _, hb => hb.elim
  | .non, .ref _, u, _, hb => hb.elim
  | .non, .exc _, u, _, hb => hb.elim
  | .bl a, .dct _ _, u, _, hb => hb.elim
  | .bl a, .nd _ _, u, _, hb => hb.elim
  | .bl a, .fz _, u, _, hb => hb.elim
  | .bl a, .ref _, u, _, hb => hb.elim
  | .bl a, .exc _, u, _, hb => hb.elim
  | .int a, .dct _ _, u, _, hb => hb.elim
  | .int a, .nd _ _, u, _, hb => hb.elim
  | .int a, .fz _, u, _, hb => hb.elim
  | .int a, .ref _, u, _, hb => hb.elim
  | .int a, .exc _, u, _, hb => hb.elim
  | .str a, .dct _ _, u, _, hb => hb.elim
  | .str a, .nd _ _, u, _, hb => hb.elim
  | .str a, .fz _, u, _, hb => hb.elim
  | .str a, .ref _, u, _, hb => hb.elim
  | .str a, .exc _, u, _, hb => hb.elim
  | .tup as, .dct _ _, u, _, hb => hb.elim
  | .tup as, .nd _ _, u, _, hb => hb.elim
  | .tup as, .fz _, u, _, hb => hb.elim
  | .tup as, .ref _, u, _, hb => hb.elim
  | .tup as, .exc _, u, _, hb => hb.elim
  | .lst as, .dct _ _, u, _, hb => hb.elim
  | .lst as, .nd _ _, u, _, hb => hb.elim
  | .lst as, .fz _, u, _, hb => hb.elim
  | .lst as, .ref _, u, _, hb => hb.elim
  | .lst as, .exc _, u, _, hb => hb.elim
theorem Trees.unique {h : Heap} : ∀ (xs ys : List D) (us : List Value), Trees h xs us → Trees h ys us → xs = ys
  | [], [], _, _, _ => rfl
  | [], y :: ys, us, ha, hb => by
    obtain ⟨u, r, e, _⟩ := hb
    rw [show us = [] from ha] at e; cases e
  | x :: xs, [], us, ha, hb => by
    obtain ⟨u, r, e, _⟩ := ha
    rw [show us = [] from hb] at e; cases e
  | x :: xs, y :: ys, us, ha, hb => by
    obtain ⟨u, r, rfl, h1, h2⟩ := ha
    obtain ⟨u', r', e, h3, h4⟩ := hb
    cases e
    rw [Tree.unique x y u h1 h3, Trees.unique xs ys r h2 h4]
end
mutual
theorem eqv_self {h : Heap} : ∀ (x : D) (u : Value), Tree h x u → x.eqv x = true
  | .non, _, _ => rfl
  | .bl _, _, _ => by simp [D.eqv]
  | .int _, _, _ => by simp [D.eqv]
  | .str _, _, _ => by simp [D.eqv]
  | .tup ds, u, q => by
    obtain ⟨a, its, _, _, r⟩ := q
    exact eqvs_self ds _ r
  | .lst ds, u, q => by
    obtain ⟨a, its, _, _, r⟩ := q
    exact eqvs_self ds _ r
  | .dct _ _, u, q => q.elim
  | .nd _ _, u, q => q.elim
  | .fz _, u, q => q.elim
  | .ref _, u, q => q.elim
  | .exc _, u, q => q.elim
theorem eqvs_self {h : Heap} : ∀ (xs : List D) (us : List Value), Trees h xs us → eqvs xs xs = true
  | [], _, _ => rfl
  | x :: xs, us, q => by
    obtain ⟨u, r, _, h1, h2⟩ := q
    show (x.eqv x && eqvs xs xs) = true
    rw [eqv_self x u h1, eqvs_self xs r h2]; rfl
end
def pairQ (xs ys : List D) (j : Nat) : Bool := match xs[j]?, ys[j]? with
  | some x, some y => x.eqv y
  | _, _ => false
theorem eqvs_len : ∀ xs ys : List D, ((List.range (min xs.length ys.length)).all (pairQ xs ys) && xs.length == ys.length) = eqvs xs ys
  | [], [] => rfl
  | [], y :: ys => by
    show ((List.range (min 0 _)).all _ && _) = false
    simp
  | x :: xs, [] => by
    show ((List.range (min _ 0)).all _ && _) = false
    simp
  | x :: xs, y :: ys => by
    have ih := eqvs_len xs ys
    have e1 : min (x :: xs).length (y :: ys).length = min xs.length ys.length + 1 := by simp only [List.length_cons]; omega
    have e2 : ((x :: xs).length == (y :: ys).length) = (xs.length == ys.length) := by simp
    have e3 : (List.range (min xs.length ys.length + 1)).all (pairQ (x :: xs) (y :: ys)) = (x.eqv y && (List.range (min xs.length ys.length)).all (pairQ xs ys)) := by
      rw [List.range_succ_eq_map, List.all_cons, List.all_map]
      first | rfl | simp [pairQ, Function.comp_def]
    rw [e1, e2, e3]
    show _ = (x.eqv y && eqvs xs ys)
    rw [← ih, Bool.and_assoc]
theorem eqvs_same {xs ys : List D} (h : xs.length = ys.length) : (List.range xs.length).all (pairQ xs ys) = eqvs xs ys := by
  rw [← eqvs_len, h]
  simp
theorem eqvs_other {xs ys : List D} (h : xs.length ≠ ys.length) : eqvs xs ys = false := by
  rw [← eqvs_len]
  simp [h]
section
variable {A : Around} {s : Shared} {u v : Value} {b c : Bool}
theorem eqc (h : EqAt A s u v b) (e : b = c) : EqAt A s u v c := e ▸ h
theorem rcc (h : RcAt A s u v b) (e : b = c) : RcAt A s u v c := e ▸ h
theorem rnc (h : RcNeAt A s u v b) (e : b = c) : RcNeAt A s u v c := e ▸ h
end
theorem dec_beq {α : Type} [DecidableEq α] (a b : α) : (a == b) = decide (a = b) := by
  by_cases h : a = b
  · subst h; simp
  · simp [h]
mutual
theorem eqAt_tree : ∀ (x y : D) (A : Around) (s : Shared) (u v : Value), Tree s.heap x u → Tree s.heap y v → A.units + min x.depth y.depth < cLine → EqAt A s u v (x.eqv y)
  | .non, .non, A, s, u, v, ha, hb, hu => by
    cases (show u = Value.none from ha)
    cases (show v = Value.none from hb)
    exact EqAt.same _
  | .non, .bl b, A, s, u, v, ha, hb, hu => by
    cases (show u = Value.none from ha)
    cases (show v = Value.bool b from hb)
    exact eqc (EqAt.none_bool b) rfl
  | .non, .int b, A, s, u, v, ha, hb, hu => by
    cases (show u = Value.none from ha)
    obtain ⟨tb, rfl⟩ := hb
    exact eqc (EqAt.none_int b tb) rfl
  | .non, .str b, A, s, u, v, ha, hb, hu => by
    cases (show u = Value.none from ha)
    obtain ⟨tb, rfl⟩ := hb
    exact eqc (EqAt.none_str b tb) rfl
  | .non, .tup bs, A, s, u, v, ha, hb, hu => by
    cases (show u = Value.none from ha)
    obtain ⟨lb, ib, rfl, qb, rb⟩ := hb
    exact eqc (EqAt.none_tuple qb (room_here hu)) rfl
  | .non, .lst bs, A, s, u, v, ha, hb, hu => by
    cases (show u = Value.none from ha)
    obtain ⟨lb, ib, rfl, qb, rb⟩ := hb
    exact eqc (EqAt.none_list qb (room_here hu)) rfl
  | .bl a, .non, A, s, u, v, ha, hb, hu => by
    cases (show u = Value.bool a from ha)
    cases (show v = Value.none from hb)
    exact eqc (EqAt.bool_none a) rfl
  | .bl a, .bl b, A, s, u, v, ha, hb, hu => by
    cases (show u = Value.bool a from ha)
    cases (show v = Value.bool b from hb)
    exact eqc (EqAt.bool_bool a b) rfl
  | .bl a, .int b, A, s, u, v, ha, hb, hu => by
    cases (show u = Value.bool a from ha)
    obtain ⟨tb, rfl⟩ := hb
    exact eqc (EqAt.bool_int a b tb) (by simp only [D.eqv, dec_beq, bne])
  | .bl a, .str b, A, s, u, v, ha, hb, hu => by
    cases (show u = Value.bool a from ha)
    obtain ⟨tb, rfl⟩ := hb
    exact eqc (EqAt.bool_str a b tb) rfl
  | .bl a, .tup bs, A, s, u, v, ha, hb, hu => by
    cases (show u = Value.bool a from ha)
    obtain ⟨lb, ib, rfl, qb, rb⟩ := hb
    exact eqc (EqAt.bool_tuple a qb (room_here hu)) rfl
  | .bl a, .lst bs, A, s, u, v, ha, hb, hu => by
    cases (show u = Value.bool a from ha)
    obtain ⟨lb, ib, rfl, qb, rb⟩ := hb
    exact eqc (EqAt.bool_list a qb (room_here hu)) rfl
  | .int a, .non, A, s, u, v, ha, hb, hu => by
    obtain ⟨ta, rfl⟩ := ha
    cases (show v = Value.none from hb)
    exact eqc (EqAt.int_none a ta) rfl
  | .int a, .bl b, A, s, u, v, ha, hb, hu => by
    obtain ⟨ta, rfl⟩ := ha
    cases (show v = Value.bool b from hb)
    exact eqc (EqAt.int_bool a ta b) (by simp only [D.eqv, dec_beq, bne])
  | .int a, .int b, A, s, u, v, ha, hb, hu => by
    obtain ⟨ta, rfl⟩ := ha
    obtain ⟨tb, rfl⟩ := hb
    exact eqc (EqAt.int_int a ta b tb) (by simp only [D.eqv, dec_beq, bne])
  | .int a, .str b, A, s, u, v, ha, hb, hu => by
    obtain ⟨ta, rfl⟩ := ha
    obtain ⟨tb, rfl⟩ := hb
    exact eqc (EqAt.int_str a ta b tb) rfl
  | .int a, .tup bs, A, s, u, v, ha, hb, hu => by
    obtain ⟨ta, rfl⟩ := ha
    obtain ⟨lb, ib, rfl, qb, rb⟩ := hb
    exact eqc (EqAt.int_tuple a ta qb (room_here hu)) rfl
  | .int a, .lst bs, A, s, u, v, ha, hb, hu => by
    obtain ⟨ta, rfl⟩ := ha
    obtain ⟨lb, ib, rfl, qb, rb⟩ := hb
    exact eqc (EqAt.int_list a ta qb (room_here hu)) rfl
  | .str a, .non, A, s, u, v, ha, hb, hu => by
    obtain ⟨ta, rfl⟩ := ha
    cases (show v = Value.none from hb)
    exact eqc (EqAt.str_none a ta) rfl
  | .str a, .bl b, A, s, u, v, ha, hb, hu => by
    obtain ⟨ta, rfl⟩ := ha
    cases (show v = Value.bool b from hb)
    exact eqc (EqAt.str_bool a ta b) rfl
  | .str a, .int b, A, s, u, v, ha, hb, hu => by
    obtain ⟨ta, rfl⟩ := ha
    obtain ⟨tb, rfl⟩ := hb
    exact eqc (EqAt.str_int a ta b tb) rfl
  | .str a, .str b, A, s, u, v, ha, hb, hu => by
    obtain ⟨ta, rfl⟩ := ha
    obtain ⟨tb, rfl⟩ := hb
    exact eqc (EqAt.str_str a ta b tb) (by simp only [D.eqv, dec_beq, bne])
  | .str a, .tup bs, A, s, u, v, ha, hb, hu => by
    obtain ⟨ta, rfl⟩ := ha
    obtain ⟨lb, ib, rfl, qb, rb⟩ := hb
    exact eqc (EqAt.str_tuple a ta qb (room_here hu)) rfl
  | .str a, .lst bs, A, s, u, v, ha, hb, hu => by
    obtain ⟨ta, rfl⟩ := ha
    obtain ⟨lb, ib, rfl, qb, rb⟩ := hb
    exact eqc (EqAt.str_list a ta qb (room_here hu)) rfl
  | .tup as, .non, A, s, u, v, ha, hb, hu => by
    obtain ⟨la, ia, rfl, qa, ra⟩ := ha
    cases (show v = Value.none from hb)
    exact eqc (EqAt.tuple_none qa (room_here hu)) rfl
  | .tup as, .bl b, A, s, u, v, ha, hb, hu => by
    obtain ⟨la, ia, rfl, qa, ra⟩ := ha
    cases (show v = Value.bool b from hb)
    exact eqc (EqAt.tuple_bool b qa (room_here hu)) rfl
  | .tup as, .int b, A, s, u, v, ha, hb, hu => by
    obtain ⟨la, ia, rfl, qa, ra⟩ := ha
    obtain ⟨tb, rfl⟩ := hb
    exact eqc (EqAt.tuple_int b tb qa (room_here hu)) rfl
  | .tup as, .str b, A, s, u, v, ha, hb, hu => by
    obtain ⟨la, ia, rfl, qa, ra⟩ := ha
    obtain ⟨tb, rfl⟩ := hb
    exact eqc (EqAt.tuple_str b tb qa (room_here hu)) rfl
  | .tup as, .tup bs, A, s, u, v, ha, hb, hu => by
    obtain ⟨la, ia, rfl, qa, ra⟩ := ha
    obtain ⟨lb, ib, rfl, qb, rb⟩ := hb
    have n1 : ia.size = as.length := by simpa using Trees.length _ _ ra
    have n2 : ib.size = bs.length := by simpa using Trees.length _ _ rb
    have hu2 : A.units + min (depths as + 1) (depths bs + 1) < cLine := hu
    have he : ∀ j (j1 : j < ia.size) (j2 : j < ib.size), EqAt A.in1 s ia[j] ib[j] (pairQ as bs j) := fun j j1 j2 => by
      have := eqAt_trees as bs A.in1 s ia.toList ib.toList ra rb (room_in hu2) j (by simpa using j1) (by simpa using j2)
      simpa using this
    show EqAt A s (.ref la) (.ref lb) (eqvs as bs)
    by_cases hll : la = lb
    · subst hll
      cases IsTuple.inj qa qb
      rw [Trees.unique as bs _ ra rb, eqvs_self bs _ rb]
      exact EqAt.same _
    · rw [← eqvs_len as bs, ← n1, ← n2]
      exact EqAt.of_refs hll (RcAt.tuples qa qb (room_here hu) he)
  | .tup as, .lst bs, A, s, u, v, ha, hb, hu => by
    obtain ⟨la, ia, rfl, qa, ra⟩ := ha
    obtain ⟨lb, ib, rfl, qb, rb⟩ := hb
    exact eqc (EqAt.tuple_list qa qb (room_here hu)) rfl
  | .lst as, .non, A, s, u, v, ha, hb, hu => by
    obtain ⟨la, ia, rfl, qa, ra⟩ := ha
    cases (show v = Value.none from hb)
    exact eqc (EqAt.list_none qa (room_here hu)) rfl
  | .lst as, .bl b, A, s, u, v, ha, hb, hu => by
    obtain ⟨la, ia, rfl, qa, ra⟩ := ha
    cases (show v = Value.bool b from hb)
    exact eqc (EqAt.list_bool b qa (room_here hu)) rfl
  | .lst as, .int b, A, s, u, v, ha, hb, hu => by
    obtain ⟨la, ia, rfl, qa, ra⟩ := ha
    obtain ⟨tb, rfl⟩ := hb
    exact eqc (EqAt.list_int b tb qa (room_here hu)) rfl
  | .lst as, .str b, A, s, u, v, ha, hb, hu => by
    obtain ⟨la, ia, rfl, qa, ra⟩ := ha
    obtain ⟨tb, rfl⟩ := hb
    exact eqc (EqAt.list_str b tb qa (room_here hu)) rfl
  | .lst as, .tup bs, A, s, u, v, ha, hb, hu => by
    obtain ⟨la, ia, rfl, qa, ra⟩ := ha
    obtain ⟨lb, ib, rfl, qb, rb⟩ := hb
    exact eqc (EqAt.list_tuple qa qb (room_here hu)) rfl
  | .lst as, .lst bs, A, s, u, v, ha, hb, hu => by
    obtain ⟨la, ia, rfl, qa, ra⟩ := ha
    obtain ⟨lb, ib, rfl, qb, rb⟩ := hb
    have n1 : ia.size = as.length := by simpa using Trees.length _ _ ra
    have n2 : ib.size = bs.length := by simpa using Trees.length _ _ rb
    have hu2 : A.units + min (depths as + 1) (depths bs + 1) < cLine := hu
    have he : ∀ j (j1 : j < ia.size) (j2 : j < ib.size), EqAt A.in1 s ia[j] ib[j] (pairQ as bs j) := fun j j1 j2 => by
      have := eqAt_trees as bs A.in1 s ia.toList ib.toList ra rb (room_in hu2) j (by simpa using j1) (by simpa using j2)
      simpa using this
    show EqAt A s (.ref la) (.ref lb) (eqvs as bs)
    by_cases hll : la = lb
    · subst hll
      cases IsList.inj qa qb
      rw [Trees.unique as bs _ ra rb, eqvs_self bs _ rb]
      exact EqAt.same _
    · by_cases hsz : ia.size = ib.size
      · rw [← eqvs_same (by omega : as.length = bs.length), ← n1]
        exact EqAt.of_refs hll (RcAt.lists qa qb hsz (room_here hu) he)
      · rw [eqvs_other (by omega : as.length ≠ bs.length)]
        exact EqAt.of_refs hll (RcAt.lists_lengths qa qb (by simpa using hsz) (room_here hu))
  | .dct _ _, _, A, s, u, v, ha, _, _ => ha.elim
  | .nd _ _, _, A, s, u, v, ha, _, _ => ha.elim
  | .fz _, _, A, s, u, v, ha, _, _ => ha.elim
  | .ref _, _, A, s, u, v, ha, _, _ => ha.elim
  | .exc _, _, A, s, u, v, ha, _, _ => ha.elim
  | .non, .dct _ _, A, s, u, v, _, hb, _ => hb.elim
  | .non, .nd _ _, A, s, u, v, _, hb, _ => hb.elim
  | .non, .fz _, A, s, u, v, _, hb, _ => hb.elim
  | .non, .ref _, A, s, u, v, _, hb, _ => hb.elim
  | .non, .exc _, A, s, u, v, _, hb, _ => hb.elim
  | .bl a, .dct _ _, A, s, u, v, _, hb, _ => hb.elim
  | .bl a, .nd _ _, A, s, u, v, _, hb, _ => hb.elim
  | .bl a, .fz _, A, s, u, v, _, hb, _ => hb.elim
  | .bl a, .ref _, A, s, u, v, _, hb, _ => hb.elim
  | .bl a, .exc _, A, s, u, v, _, hb, _ => hb.elim
  | .int a, .dct _ _, A, s, u, v, _, hb, _ => hb.elim
  | .int a, .nd _ _, A, s, u, v, _, hb, _ => hb.elim
  | .int a, .fz _, A, s, u, v, _, hb, _ => hb.elim
  | .int a, .ref _, A, s, u, v, _, hb, _ => hb.elim
  | .int a, .exc _, A, s, u, v, _, hb, _ => hb.elim
  | .str a, .dct _ _, A, s, u, v, _, hb, _ => hb.elim
  | .str a, .nd _ _, A, s, u, v, _, hb, _ => hb.elim
  | .str a, .fz _, A, s, u, v, _, hb, _ => hb.elim
  | .str a, .ref _, A, s, u, v, _, hb, _ => hb.elim
  | .str a, .exc _, A, s, u, v, _, hb, _ => hb.elim
  | .tup as, .dct _ _, A, s, u, v, _, hb, _ => hb.elim
  | .tup as, .nd _ _, A, s, u, v, _, hb, _ => hb.elim
  | .tup as, .fz _, A, s, u, v, _, hb, _ => hb.elim
  | .tup as, .ref _, A, s, u, v, _, hb, _ => hb.elim
  | .tup as, .exc _, A, s, u, v, _, hb, _ => hb.elim
  | .lst as, .dct _ _, A, s, u, v, _, hb, _ => hb.elim
  | .lst as, .nd _ _, A, s, u, v, _, hb, _ => hb.elim
  | .lst as, .fz _, A, s, u, v, _, hb, _ => hb.elim
  | .lst as, .ref _, A, s, u, v, _, hb, _ => hb.elim
  | .lst as, .exc _, A, s, u, v, _, hb, _ => hb.elim
theorem eqAt_trees : ∀ (xs ys : List D) (A : Around) (s : Shared) (us vs : List Value), Trees s.heap xs us → Trees s.heap ys vs → A.units + min (depths xs) (depths ys) < cLine → ∀ j (h1 : j < us.length) (h2 : j < vs.length), EqAt A s us[j] vs[j] (pairQ xs ys j)
  | [], _, _, _, us, _, ra, _, _, j, h1, _ => by
    cases (show us = [] from ra); exact absurd h1 (Nat.not_lt_zero _)
  | _ :: _, [], _, _, _, vs, _, rb, _, j, _, h2 => by
    cases (show vs = [] from rb); exact absurd h2 (Nat.not_lt_zero _)
  | x :: xs, y :: ys, A, s, us, vs, ra, rb, hu, j, h1, h2 => by
    obtain ⟨u, r, rfl, h3, h4⟩ := ra
    obtain ⟨v, r', rfl, h5, h6⟩ := rb
    cases j with
    | zero => exact eqAt_tree x y A s u v h3 h5 (room_head hu)
    | succ j => exact eqAt_trees xs ys A s r r' h4 h6 (room_tail hu) j (Nat.lt_of_succ_lt_succ h1) (Nat.lt_of_succ_lt_succ h2)
end
theorem rcAt_tree : ∀ (x y : D) (A : Around) (s : Shared) (u v : Value), Tree s.heap x u → Tree s.heap y v → A.units + min x.depth y.depth < cLine → RcAt A s u v (x.eqv y)
  | .non, .non, A, s, u, v, ha, hb, hu => by
    cases (show u = Value.none from ha)
    cases (show v = Value.none from hb)
    exact RcAt.none_none
  | .non, .bl b, A, s, u, v, ha, hb, hu => by
    cases (show u = Value.none from ha)
    cases (show v = Value.bool b from hb)
    exact rcc (RcAt.none_bool b) rfl
  | .non, .int b, A, s, u, v, ha, hb, hu => by
    cases (show u = Value.none from ha)
    obtain ⟨tb, rfl⟩ := hb
    exact rcc (RcAt.none_int b tb) rfl
  | .non, .str b, A, s, u, v, ha, hb, hu => by
    cases (show u = Value.none from ha)
    obtain ⟨tb, rfl⟩ := hb
    exact rcc (RcAt.none_str b tb) rfl
  | .non, .tup bs, A, s, u, v, ha, hb, hu => by
    cases (show u = Value.none from ha)
    obtain ⟨lb, ib, rfl, qb, rb⟩ := hb
    exact rcc (RcAt.none_tuple qb (room_here hu)) rfl
  | .non, .lst bs, A, s, u, v, ha, hb, hu => by
    cases (show u = Value.none from ha)
    obtain ⟨lb, ib, rfl, qb, rb⟩ := hb
    exact rcc (RcAt.none_list qb (room_here hu)) rfl
  | .bl a, .non, A, s, u, v, ha, hb, hu => by
    cases (show u = Value.bool a from ha)
    cases (show v = Value.none from hb)
    exact rcc (RcAt.bool_none a) rfl
  | .bl a, .bl b, A, s, u, v, ha, hb, hu => by
    cases (show u = Value.bool a from ha)
    cases (show v = Value.bool b from hb)
    exact rcc (RcAt.bool_bool a b) rfl
  | .bl a, .int b, A, s, u, v, ha, hb, hu => by
    cases (show u = Value.bool a from ha)
    obtain ⟨tb, rfl⟩ := hb
    exact rcc (RcAt.bool_int a b tb) (by simp only [D.eqv, dec_beq, bne])
  | .bl a, .str b, A, s, u, v, ha, hb, hu => by
    cases (show u = Value.bool a from ha)
    obtain ⟨tb, rfl⟩ := hb
    exact rcc (RcAt.bool_str a b tb) rfl
  | .bl a, .tup bs, A, s, u, v, ha, hb, hu => by
    cases (show u = Value.bool a from ha)
    obtain ⟨lb, ib, rfl, qb, rb⟩ := hb
    exact rcc (RcAt.bool_tuple a qb (room_here hu)) rfl
  | .bl a, .lst bs, A, s, u, v, ha, hb, hu => by
    cases (show u = Value.bool a from ha)
    obtain ⟨lb, ib, rfl, qb, rb⟩ := hb
    exact rcc (RcAt.bool_list a qb (room_here hu)) rfl
  | .int a, .non, A, s, u, v, ha, hb, hu => by
    obtain ⟨ta, rfl⟩ := ha
    cases (show v = Value.none from hb)
    exact rcc (RcAt.int_none a ta) rfl
  | .int a, .bl b, A, s, u, v, ha, hb, hu => by
    obtain ⟨ta, rfl⟩ := ha
    cases (show v = Value.bool b from hb)
    exact rcc (RcAt.int_bool a ta b) (by simp only [D.eqv, dec_beq, bne])
  | .int a, .int b, A, s, u, v, ha, hb, hu => by
    obtain ⟨ta, rfl⟩ := ha
    obtain ⟨tb, rfl⟩ := hb
    exact rcc (RcAt.int_int a ta b tb) (by simp only [D.eqv, dec_beq, bne])
  | .int a, .str b, A, s, u, v, ha, hb, hu => by
    obtain ⟨ta, rfl⟩ := ha
    obtain ⟨tb, rfl⟩ := hb
    exact rcc (RcAt.int_str a ta b tb) rfl
  | .int a, .tup bs, A, s, u, v, ha, hb, hu => by
    obtain ⟨ta, rfl⟩ := ha
    obtain ⟨lb, ib, rfl, qb, rb⟩ := hb
    exact rcc (RcAt.int_tuple a ta qb (room_here hu)) rfl
  | .int a, .lst bs, A, s, u, v, ha, hb, hu => by
    obtain ⟨ta, rfl⟩ := ha
    obtain ⟨lb, ib, rfl, qb, rb⟩ := hb
    exact rcc (RcAt.int_list a ta qb (room_here hu)) rfl
  | .str a, .non, A, s, u, v, ha, hb, hu => by
    obtain ⟨ta, rfl⟩ := ha
    cases (show v = Value.none from hb)
    exact rcc (RcAt.str_none a ta) rfl
  | .str a, .bl b, A, s, u, v, ha, hb, hu => by
    obtain ⟨ta, rfl⟩ := ha
    cases (show v = Value.bool b from hb)
    exact rcc (RcAt.str_bool a ta b) rfl
  | .str a, .int b, A, s, u, v, ha, hb, hu => by
    obtain ⟨ta, rfl⟩ := ha
    obtain ⟨tb, rfl⟩ := hb
    exact rcc (RcAt.str_int a ta b tb) rfl
  | .str a, .str b, A, s, u, v, ha, hb, hu => by
    obtain ⟨ta, rfl⟩ := ha
    obtain ⟨tb, rfl⟩ := hb
    exact rcc (RcAt.str_str a ta b tb) (by simp only [D.eqv, dec_beq, bne])
  | .str a, .tup bs, A, s, u, v, ha, hb, hu => by
    obtain ⟨ta, rfl⟩ := ha
    obtain ⟨lb, ib, rfl, qb, rb⟩ := hb
    exact rcc (RcAt.str_tuple a ta qb (room_here hu)) rfl
  | .str a, .lst bs, A, s, u, v, ha, hb, hu => by
    obtain ⟨ta, rfl⟩ := ha
    obtain ⟨lb, ib, rfl, qb, rb⟩ := hb
    exact rcc (RcAt.str_list a ta qb (room_here hu)) rfl
  | .tup as, .non, A, s, u, v, ha, hb, hu => by
    obtain ⟨la, ia, rfl, qa, ra⟩ := ha
    cases (show v = Value.none from hb)
    exact rcc (RcAt.tuple_none qa (room_here hu)) rfl
  | .tup as, .bl b, A, s, u, v, ha, hb, hu => by
    obtain ⟨la, ia, rfl, qa, ra⟩ := ha
    cases (show v = Value.bool b from hb)
    exact rcc (RcAt.tuple_bool b qa (room_here hu)) rfl
  | .tup as, .int b, A, s, u, v, ha, hb, hu => by
    obtain ⟨la, ia, rfl, qa, ra⟩ := ha
    obtain ⟨tb, rfl⟩ := hb
    exact rcc (RcAt.tuple_int b tb qa (room_here hu)) rfl
  | .tup as, .str b, A, s, u, v, ha, hb, hu => by
    obtain ⟨la, ia, rfl, qa, ra⟩ := ha
    obtain ⟨tb, rfl⟩ := hb
    exact rcc (RcAt.tuple_str b tb qa (room_here hu)) rfl
  | .tup as, .tup bs, A, s, u, v, ha, hb, hu => by
    obtain ⟨la, ia, rfl, qa, ra⟩ := ha
    obtain ⟨lb, ib, rfl, qb, rb⟩ := hb
    have n1 : ia.size = as.length := by simpa using Trees.length _ _ ra
    have n2 : ib.size = bs.length := by simpa using Trees.length _ _ rb
    have hu2 : A.units + min (depths as + 1) (depths bs + 1) < cLine := hu
    have he : ∀ j (j1 : j < ia.size) (j2 : j < ib.size), EqAt A.in1 s ia[j] ib[j] (pairQ as bs j) := fun j j1 j2 => by
      have := eqAt_trees as bs A.in1 s ia.toList ib.toList ra rb (room_in hu2) j (by simpa using j1) (by simpa using j2)
      simpa using this
    show RcAt A s (.ref la) (.ref lb) (eqvs as bs)
    rw [← eqvs_len as bs, ← n1, ← n2]
    exact RcAt.tuples qa qb (room_here hu) he
  | .tup as, .lst bs, A, s, u, v, ha, hb, hu => by
    obtain ⟨la, ia, rfl, qa, ra⟩ := ha
    obtain ⟨lb, ib, rfl, qb, rb⟩ := hb
    exact rcc (RcAt.tuple_list qa qb (room_here hu)) rfl
  | .lst as, .non, A, s, u, v, ha, hb, hu => by
    obtain ⟨la, ia, rfl, qa, ra⟩ := ha
    cases (show v = Value.none from hb)
    exact rcc (RcAt.list_none qa (room_here hu)) rfl
  | .lst as, .bl b, A, s, u, v, ha, hb, hu => by
    obtain ⟨la, ia, rfl, qa, ra⟩ := ha
    cases (show v = Value.bool b from hb)
    exact rcc (RcAt.list_bool b qa (room_here hu)) rfl
  | .lst as, .int b, A, s, u, v, ha, hb, hu => by
    obtain ⟨la, ia, rfl, qa, ra⟩ := ha
    obtain ⟨tb, rfl⟩ := hb
    exact rcc (RcAt.list_int b tb qa (room_here hu)) rfl
  | .lst as, .str b, A, s, u, v, ha, hb, hu => by
    obtain ⟨la, ia, rfl, qa, ra⟩ := ha
    obtain ⟨tb, rfl⟩ := hb
    exact rcc (RcAt.list_str b tb qa (room_here hu)) rfl
  | .lst as, .tup bs, A, s, u, v, ha, hb, hu => by
    obtain ⟨la, ia, rfl, qa, ra⟩ := ha
    obtain ⟨lb, ib, rfl, qb, rb⟩ := hb
    exact rcc (RcAt.list_tuple qa qb (room_here hu)) rfl
  | .lst as, .lst bs, A, s, u, v, ha, hb, hu => by
    obtain ⟨la, ia, rfl, qa, ra⟩ := ha
    obtain ⟨lb, ib, rfl, qb, rb⟩ := hb
    have n1 : ia.size = as.length := by simpa using Trees.length _ _ ra
    have n2 : ib.size = bs.length := by simpa using Trees.length _ _ rb
    have hu2 : A.units + min (depths as + 1) (depths bs + 1) < cLine := hu
    have he : ∀ j (j1 : j < ia.size) (j2 : j < ib.size), EqAt A.in1 s ia[j] ib[j] (pairQ as bs j) := fun j j1 j2 => by
      have := eqAt_trees as bs A.in1 s ia.toList ib.toList ra rb (room_in hu2) j (by simpa using j1) (by simpa using j2)
      simpa using this
    show RcAt A s (.ref la) (.ref lb) (eqvs as bs)
    by_cases hsz : ia.size = ib.size
    · rw [← eqvs_same (by omega : as.length = bs.length), ← n1]
      exact RcAt.lists qa qb hsz (room_here hu) he
    · rw [eqvs_other (by omega : as.length ≠ bs.length)]
      exact RcAt.lists_lengths qa qb (by simpa using hsz) (room_here hu)
  | .dct _ _, _, A, s, u, v, ha, _, _ => ha.elim
  | .nd _ _, _, A, s, u, v, ha, _, _ => ha.elim
  | .fz _, _, A, s, u, v, ha, _, _ => ha.elim
  | .ref _, _, A, s, u, v, ha, _, _ => ha.elim
  | .exc _, _, A, s, u, v, ha, _, _ => ha.elim
  | .non, .dct _ _, A, s, u, v, _, hb, _ => hb.elim
  | .non, .nd _ _, A, s, u, v, _, hb, _ => hb.elim
  | .non, .fz _, A, s, u, v, _, hb, _ => hb.elim
  | .non, .ref _, A, s, u, v, _, hb, _ => hb.elim
  | .non, .exc _, A, s, u, v, _, hb, _ => hb.elim
  | .bl a, .dct _ _, A, s, u, v, _, hb, _ => hb.elim
  | .bl a, .nd _ _, A, s, u, v, _, hb, _ => hb.elim
  | .bl a, .fz _, A, s, u, v, _, hb, _ => hb.elim
  | .bl a, .ref _, A, s, u, v, _, hb, _ => hb.elim
  | .bl a, .exc _, A, s, u, v, _, hb, _ => hb.elim
  | .int a, .dct _ _, A, s, u, v, _, hb, _ => hb.elim
  | .int a, .nd _ _, A, s, u, v, _, hb, _ => hb.elim
  | .int a, .fz _, A, s, u, v, _, hb, _ => hb.elim
  | .int a, .ref _, A, s, u, v, _, hb, _ => hb.elim
  | .int a, .exc _, A, s, u, v, _, hb, _ => hb.elim
  | .str a, .dct _ _, A, s, u, v, _, hb, _ => hb.elim
  | .str a, .nd _ _, A, s, u, v, _, hb, _ => hb.elim
  | .str a, .fz _, A, s, u, v, _, hb, _ => hb.elim
  | .str a, .ref _, A, s, u, v, _, hb, _ => hb.elim
  | .str a, .exc _, A, s, u, v, _, hb, _ => hb.elim
  | .tup as, .dct _ _, A, s, u, v, _, hb, _ => hb.elim
  | .tup as, .nd _ _, A, s, u, v, _, hb, _ => hb.elim
  | .tup as, .fz _, A, s, u, v, _, hb, _ => hb.elim
  | .tup as, .ref _, A, s, u, v, _, hb, _ => hb.elim
  | .tup as, .exc _, A, s, u, v, _, hb, _ => hb.elim
  | .lst as, .dct _ _, A, s, u, v, _, hb, _ => hb.elim
  | .lst as, .nd _ _, A, s, u, v, _, hb, _ => hb.elim
  | .lst as, .fz _, A, s, u, v, _, hb, _ => hb.elim
  | .lst as, .ref _, A, s, u, v, _, hb, _ => hb.elim
  | .lst as, .exc _, A, s, u, v, _, hb, _ => hb.elim
theorem rcNeAt_tree : ∀ (x y : D) (A : Around) (s : Shared) (u v : Value), Tree s.heap x u → Tree s.heap y v → A.units + min x.depth y.depth < cLine → RcNeAt A s u v (!x.eqv y)
  | .non, .non, A, s, u, v, ha, hb, hu => by
    cases (show u = Value.none from ha)
    cases (show v = Value.none from hb)
    exact RcNeAt.none_none
  | .non, .bl b, A, s, u, v, ha, hb, hu => by
    cases (show u = Value.none from ha)
    cases (show v = Value.bool b from hb)
    exact rnc (RcNeAt.none_bool b) rfl
  | .non, .int b, A, s, u, v, ha, hb, hu => by
    cases (show u = Value.none from ha)
    obtain ⟨tb, rfl⟩ := hb
    exact rnc (RcNeAt.none_int b tb) rfl
  | .non, .str b, A, s, u, v, ha, hb, hu => by
    cases (show u = Value.none from ha)
    obtain ⟨tb, rfl⟩ := hb
    exact rnc (RcNeAt.none_str b tb) rfl
  | .non, .tup bs, A, s, u, v, ha, hb, hu => by
    cases (show u = Value.none from ha)
    obtain ⟨lb, ib, rfl, qb, rb⟩ := hb
    exact rnc (RcNeAt.none_tuple qb (room_here hu)) rfl
  | .non, .lst bs, A, s, u, v, ha, hb, hu => by
    cases (show u = Value.none from ha)
    obtain ⟨lb, ib, rfl, qb, rb⟩ := hb
    exact rnc (RcNeAt.none_list qb (room_here hu)) rfl
  | .bl a, .non, A, s, u, v, ha, hb, hu => by
    cases (show u = Value.bool a from ha)
    cases (show v = Value.none from hb)
    exact rnc (RcNeAt.bool_none a) rfl
  | .bl a, .bl b, A, s, u, v, ha, hb, hu => by
    cases (show u = Value.bool a from ha)
    cases (show v = Value.bool b from hb)
    exact rnc (RcNeAt.bool_bool a b) rfl
  | .bl a, .int b, A, s, u, v, ha, hb, hu => by
    cases (show u = Value.bool a from ha)
    obtain ⟨tb, rfl⟩ := hb
    exact rnc (RcNeAt.bool_int a b tb) (by simp only [D.eqv, dec_beq, bne])
  | .bl a, .str b, A, s, u, v, ha, hb, hu => by
    cases (show u = Value.bool a from ha)
    obtain ⟨tb, rfl⟩ := hb
    exact rnc (RcNeAt.bool_str a b tb) rfl
  | .bl a, .tup bs, A, s, u, v, ha, hb, hu => by
    cases (show u = Value.bool a from ha)
    obtain ⟨lb, ib, rfl, qb, rb⟩ := hb
    exact rnc (RcNeAt.bool_tuple a qb (room_here hu)) rfl
  | .bl a, .lst bs, A, s, u, v, ha, hb, hu => by
    cases (show u = Value.bool a from ha)
    obtain ⟨lb, ib, rfl, qb, rb⟩ := hb
    exact rnc (RcNeAt.bool_list a qb (room_here hu)) rfl
  | .int a, .non, A, s, u, v, ha, hb, hu => by
    obtain ⟨ta, rfl⟩ := ha
    cases (show v = Value.none from hb)
    exact rnc (RcNeAt.int_none a ta) rfl
  | .int a, .bl b, A, s, u, v, ha, hb, hu => by
    obtain ⟨ta, rfl⟩ := ha
    cases (show v = Value.bool b from hb)
    exact rnc (RcNeAt.int_bool a ta b) (by simp only [D.eqv, dec_beq, bne])
  | .int a, .int b, A, s, u, v, ha, hb, hu => by
    obtain ⟨ta, rfl⟩ := ha
    obtain ⟨tb, rfl⟩ := hb
    exact rnc (RcNeAt.int_int a ta b tb) (by simp only [D.eqv, dec_beq, bne])
  | .int a, .str b, A, s, u, v, ha, hb, hu => by
    obtain ⟨ta, rfl⟩ := ha
    obtain ⟨tb, rfl⟩ := hb
    exact rnc (RcNeAt.int_str a ta b tb) rfl
  | .int a, .tup bs, A, s, u, v, ha, hb, hu => by
    obtain ⟨ta, rfl⟩ := ha
    obtain ⟨lb, ib, rfl, qb, rb⟩ := hb
    exact rnc (RcNeAt.int_tuple a ta qb (room_here hu)) rfl
  | .int a, .lst bs, A, s, u, v, ha, hb, hu => by
    obtain ⟨ta, rfl⟩ := ha
    obtain ⟨lb, ib, rfl, qb, rb⟩ := hb
    exact rnc (RcNeAt.int_list a ta qb (room_here hu)) rfl
  | .str a, .non, A, s, u, v, ha, hb, hu => by
    obtain ⟨ta, rfl⟩ := ha
    cases (show v = Value.none from hb)
    exact rnc (RcNeAt.str_none a ta) rfl
  | .str a, .bl b, A, s, u, v, ha, hb, hu => by
    obtain ⟨ta, rfl⟩ := ha
    cases (show v = Value.bool b from hb)
    exact rnc (RcNeAt.str_bool a ta b) rfl
  | .str a, .int b, A, s, u, v, ha, hb, hu => by
    obtain ⟨ta, rfl⟩ := ha
    obtain ⟨tb, rfl⟩ := hb
    exact rnc (RcNeAt.str_int a ta b tb) rfl
  | .str a, .str b, A, s, u, v, ha, hb, hu => by
    obtain ⟨ta, rfl⟩ := ha
    obtain ⟨tb, rfl⟩ := hb
    exact rnc (RcNeAt.str_str a ta b tb) (by simp only [D.eqv, dec_beq, bne])
  | .str a, .tup bs, A, s, u, v, ha, hb, hu => by
    obtain ⟨ta, rfl⟩ := ha
    obtain ⟨lb, ib, rfl, qb, rb⟩ := hb
    exact rnc (RcNeAt.str_tuple a ta qb (room_here hu)) rfl
  | .str a, .lst bs, A, s, u, v, ha, hb, hu => by
    obtain ⟨ta, rfl⟩ := ha
    obtain ⟨lb, ib, rfl, qb, rb⟩ := hb
    exact rnc (RcNeAt.str_list a ta qb (room_here hu)) rfl
  | .tup as, .non, A, s, u, v, ha, hb, hu => by
    obtain ⟨la, ia, rfl, qa, ra⟩ := ha
    cases (show v = Value.none from hb)
    exact rnc (RcNeAt.tuple_none qa (room_here hu)) rfl
  | .tup as, .bl b, A, s, u, v, ha, hb, hu => by
    obtain ⟨la, ia, rfl, qa, ra⟩ := ha
    cases (show v = Value.bool b from hb)
    exact rnc (RcNeAt.tuple_bool b qa (room_here hu)) rfl
  | .tup as, .int b, A, s, u, v, ha, hb, hu => by
    obtain ⟨la, ia, rfl, qa, ra⟩ := ha
    obtain ⟨tb, rfl⟩ := hb
    exact rnc (RcNeAt.tuple_int b tb qa (room_here hu)) rfl
  | .tup as, .str b, A, s, u, v, ha, hb, hu => by
    obtain ⟨la, ia, rfl, qa, ra⟩ := ha
    obtain ⟨tb, rfl⟩ := hb
    exact rnc (RcNeAt.tuple_str b tb qa (room_here hu)) rfl
  | .tup as, .tup bs, A, s, u, v, ha, hb, hu => by
    obtain ⟨la, ia, rfl, qa, ra⟩ := ha
    obtain ⟨lb, ib, rfl, qb, rb⟩ := hb
    have n1 : ia.size = as.length := by simpa using Trees.length _ _ ra
    have n2 : ib.size = bs.length := by simpa using Trees.length _ _ rb
    have hu2 : A.units + min (depths as + 1) (depths bs + 1) < cLine := hu
    have he : ∀ j (j1 : j < ia.size) (j2 : j < ib.size), EqAt A.in1 s ia[j] ib[j] (pairQ as bs j) := fun j j1 j2 => by
      have := eqAt_trees as bs A.in1 s ia.toList ib.toList ra rb (room_in hu2) j (by simpa using j1) (by simpa using j2)
      simpa using this
    show RcNeAt A s (.ref la) (.ref lb) (!eqvs as bs)
    rw [← eqvs_len as bs, ← n1, ← n2]
    exact RcNeAt.tuples qa qb (room_here hu) he
  | .tup as, .lst bs, A, s, u, v, ha, hb, hu => by
    obtain ⟨la, ia, rfl, qa, ra⟩ := ha
    obtain ⟨lb, ib, rfl, qb, rb⟩ := hb
    exact rnc (RcNeAt.tuple_list qa qb (room_here hu)) rfl
  | .lst as, .non, A, s, u, v, ha, hb, hu => by
    obtain ⟨la, ia, rfl, qa, ra⟩ := ha
    cases (show v = Value.none from hb)
    exact rnc (RcNeAt.list_none qa (room_here hu)) rfl
  | .lst as, .bl b, A, s, u, v, ha, hb, hu => by
    obtain ⟨la, ia, rfl, qa, ra⟩ := ha
    cases (show v = Value.bool b from hb)
    exact rnc (RcNeAt.list_bool b qa (room_here hu)) rfl
  | .lst as, .int b, A, s, u, v, ha, hb, hu => by
    obtain ⟨la, ia, rfl, qa, ra⟩ := ha
    obtain ⟨tb, rfl⟩ := hb
    exact rnc (RcNeAt.list_int b tb qa (room_here hu)) rfl
  | .lst as, .str b, A, s, u, v, ha, hb, hu => by
    obtain ⟨la, ia, rfl, qa, ra⟩ := ha
    obtain ⟨tb, rfl⟩ := hb
    exact rnc (RcNeAt.list_str b tb qa (room_here hu)) rfl
  | .lst as, .tup bs, A, s, u, v, ha, hb, hu => by
    obtain ⟨la, ia, rfl, qa, ra⟩ := ha
    obtain ⟨lb, ib, rfl, qb, rb⟩ := hb
    exact rnc (RcNeAt.list_tuple qa qb (room_here hu)) rfl
  | .lst as, .lst bs, A, s, u, v, ha, hb, hu => by
    obtain ⟨la, ia, rfl, qa, ra⟩ := ha
    obtain ⟨lb, ib, rfl, qb, rb⟩ := hb
    have n1 : ia.size = as.length := by simpa using Trees.length _ _ ra
    have n2 : ib.size = bs.length := by simpa using Trees.length _ _ rb
    have hu2 : A.units + min (depths as + 1) (depths bs + 1) < cLine := hu
    have he : ∀ j (j1 : j < ia.size) (j2 : j < ib.size), EqAt A.in1 s ia[j] ib[j] (pairQ as bs j) := fun j j1 j2 => by
      have := eqAt_trees as bs A.in1 s ia.toList ib.toList ra rb (room_in hu2) j (by simpa using j1) (by simpa using j2)
      simpa using this
    show RcNeAt A s (.ref la) (.ref lb) (!eqvs as bs)
    by_cases hsz : ia.size = ib.size
    · rw [← eqvs_same (by omega : as.length = bs.length), ← n1]
      exact RcNeAt.lists qa qb hsz (room_here hu) he
    · rw [eqvs_other (by omega : as.length ≠ bs.length)]
      exact RcNeAt.lists_lengths qa qb (by simpa using hsz) (room_here hu)
  | .dct _ _, _, A, s, u, v, ha, _, _ => ha.elim
  | .nd _ _, _, A, s, u, v, ha, _, _ => ha.elim
  | .fz _, _, A, s, u, v, ha, _, _ => ha.elim
  | .ref _, _, A, s, u, v, ha, _, _ => ha.elim
  | .exc _, _, A, s, u, v, ha, _, _ => ha.elim
  | .non, .dct _ _, A, s, u, v, _, hb, _ => hb.elim
  | .non, .nd _ _, A, s, u, v, _, hb, _ => hb.elim
  | .non, .fz _, A, s, u, v, _, hb, _ => hb.elim
  | .non, .ref _, A, s, u, v, _, hb, _ => hb.elim
  | .non, .exc _, A, s, u, v, _, hb, _ => hb.elim
  | .bl a, .dct _ _, A, s, u, v, _, hb, _ => hb.elim
  | .bl a, .nd _ _, A, s, u, v, _, hb, _ => hb.elim
  | .bl a, .fz _, A, s, u, v, _, hb, _ => hb.elim
  | .bl a, .ref _, A, s, u, v, _, hb, _ => hb.elim
  | .bl a, .exc _, A, s, u, v, _, hb, _ => hb.elim
  | .int a, .dct _ _, A, s, u, v, _, hb, _ => hb.elim
  | .int a, .nd _ _, A, s, u, v, _, hb, _ => hb.elim
  | .int a, .fz _, A, s, u, v, _, hb, _ => hb.elim
  | .int a, .ref _, A, s, u, v, _, hb, _ => hb.elim
  | .int a, .exc _, A, s, u, v, _, hb, _ => hb.elim
  | .str a, .dct _ _, A, s, u, v, _, hb, _ => hb.elim
  | .str a, .nd _ _, A, s, u, v, _, hb, _ => hb.elim
  | .str a, .fz _, A, s, u, v, _, hb, _ => hb.elim
  | .str a, .ref _, A, s, u, v, _, hb, _ => hb.elim
  | .str a, .exc _, A, s, u, v, _, hb, _ => hb.elim
  | .tup as, .dct _ _, A, s, u, v, _, hb, _ => hb.elim
  | .tup as, .nd _ _, A, s, u, v, _, hb, _ => hb.elim
  | .tup as, .fz _, A, s, u, v, _, hb, _ => hb.elim
  | .tup as, .ref _, A, s, u, v, _, hb, _ => hb.elim
  | .tup as, .exc _, A, s, u, v, _, hb, _ => hb.elim
  | .lst as, .dct _ _, A, s, u, v, _, hb, _ => hb.elim
  | .lst as, .nd _ _, A, s, u, v, _, hb, _ => hb.elim
  | .lst as, .fz _, A, s, u, v, _, hb, _ => hb.elim
  | .lst as, .ref _, A, s, u, v, _, hb, _ => hb.elim
  | .lst as, .exc _, A, s, u, v, _, hb, _ => hb.elim
end Ev
end
section
set_option Elab.async false
set_option linter.all false
set_option maxRecDepth 100000
namespace Ev
open PySem PySem.Spec PyProof.Rows L2 PySem.SeqAt PySem.W
section
variable {prog : Program} {w : World} {K : Type} [DecidableEq K] {knd : HeapKind prog w K} {A : Around} {E : Value → Shared → Prop} {s : Shared}
theorem samePairsH {nm : String} {a b : Addr} {xs ys : List (K × Addr × Value)} {Q : Bool → Shared → Prop} (ha : (a == sysModules) = false) (hb : (b == sysModules) = false)
    (da : s.heap.DictOfH knd a xs) (db : s.heap.DictOfH knd b ys) (hu : knd.room A) (hk : xs.map (·.1) = ys.map (·.1))
    (hv : ∀ (i : Nat) x y, xs[i]? = some x → ys[i]? = some y → EqIn prog w A s x.2.2 y.2.2 true) (h : Q true s) :
    wpAny (model prog w) A (Builtin.Dict.samePairs nm a b) Q E s := by
  obtain ⟨oa, es, ep, hoa, _, hda, hea, hia, _⟩ := da
  obtain ⟨ob, es', ep', hob, _, hdb, heb, hib, hnb⟩ := db
  have hla : es.size = xs.length := size_of_entries hea
  have hlb : es'.size = ys.length := size_of_entries heb
  have hll : xs.length = ys.length := by simpa using congrArg List.length hk
  unfold Builtin.Dict.samePairs Builtin.Dict.showsAll
  rw [if_neg (show ¬ (a == sysModules) = true by rw [ha]; exact Bool.false_ne_true), if_neg (show ¬ (b == sysModules) = true by rw [hb]; exact Bool.false_ne_true)]
  refine wpAny_bind (wpAny_pure (wpAny_bind (wpAny_pure ?_)))
  refine wpAny_bind (wpAny_dictEntries hoa hda ?_)
  dsimp only
  refine wpAny_bind (wpAny_dictEntries hob hdb ?_)
  have hsz : es.size = es'.size := by omega
  rw [if_neg (by rw [hsz]; simp)]
  refine wpAny_bind (wpAny_dictEpoch hoa hda ?_)
  refine wpAny_bind ?_
  rw [Std.Legacy.Range.forIn_eq_forIn_range']
  simp only [Std.Legacy.Range.size, Nat.sub_zero, Nat.add_sub_cancel, Nat.div_one]
  refine wpAny_forIn_list _ (fun rest q s' => s' = s ∧ q = (none, ()) ∧ ∃ i, rest = List.range' i (es.size - i) ∧ i ≤ es.size) _ ?_ ?_ _ _ ⟨rfl, rfl, 0, by simp, Nat.zero_le _⟩
  · rintro x rest q s' ⟨rfl, rfl, i, hr, hi⟩
    have hlt : i < es.size := by
      rcases Nat.lt_or_ge i es.size with h | h
      · exact h
      · rw [Nat.sub_eq_zero_of_le h] at hr; simp at hr
    obtain ⟨rfl, hrest⟩ : x = i ∧ rest = List.range' (i + 1) (es.size - (i + 1)) := by
      have e : es.size - i = (es.size - (i + 1)) + 1 := by omega
      rw [e, List.range'_succ] at hr
      injection hr with h1 h2
      exact ⟨h1, h2⟩
    refine wpAny_bind (wpAny_dictEntries hoa hda ?_)
    have hltx : x < xs.length := by omega
    have hlty : x < ys.length := by omega
    rw [entry_at hea x, List.getElem?_eq_getElem hltx]
    have hkk : (xs[x]).1 = (ys[x]).1 := by
      have e1 : (xs.map (·.1))[x]? = (ys.map (·.1))[x]? := by rw [hk]
      rw [List.getElem?_map, List.getElem?_map, List.getElem?_eq_getElem hltx, List.getElem?_eq_getElem hlty] at e1
      exact Option.some.inj e1
    show wpAny _ _ (holding [Value.ref (xs[x]).2.1, (xs[x]).2.2] (dictFind b (.ref (xs[x]).2.1) (knd.hash (xs[x]).1) >>= _) >>= _) _ _ _
    refine wpAny_bind (wpAny_holding (wpAny_bind (wpAny_dictFind_heap hu (hia _ (List.getElem_mem hltx)) hob hdb heb hib hnb (fun hno => ?_) (fun j p hj => ?_))))
    · exact absurd (show ys[x]? = some ((xs[x]).1, (ys[x]).2) by rw [List.getElem?_eq_getElem hlty, hkk]) (hno x _)
    · have hjx : j = x := by
        obtain ⟨hjl, ej⟩ := List.getElem?_eq_some_iff.mp hj
        have e1 : (ys.map (·.1))[j]'(by simpa using hjl) = (ys.map (·.1))[x]'(by simpa using hlty) := by
          rw [List.getElem_map, List.getElem_map, ej, ← hkk]
        exact (List.getElem_inj hnb).mp e1
      subst hjx
      refine wpAny_bind (wpAny_dictEntries hob hdb ?_)
      rw [entry_at heb j, List.getElem?_eq_getElem hlty]
      refine wpAny_holding (hv j _ _ (List.getElem?_eq_getElem hltx) (List.getElem?_eq_getElem hlty) _ _ ?_)
      show wpAny _ _ (if (!true) = true then _ else _) _ _ _
      rw [if_neg (by decide)]
      refine wpAny_bind (wpAny_dictEpoch hoa hda ?_)
      rw [if_neg (by simp)]
      exact wpAny_pure ⟨rfl, rfl, j + 1, hrest, hlt⟩
  · rintro q s' ⟨rfl, rfl, i, hr, hi⟩
    exact wpAny_pure h
theorem rc_nd {a b : Addr} {xs ys : List (K × Addr × Value)} {Q : Value → Shared → Prop} (ha : (a == sysModules) = false) (hb : (b == sysModules) = false)
    (da : s.heap.DictOfH knd a xs) (db : s.heap.DictOfH knd b ys) (hu : A.units < cLine) (hr : knd.room A.in1) (hk : xs.map (·.1) = ys.map (·.1))
    (hv : ∀ (i : Nat) x y, xs[i]? = some x → ys[i]? = some y → EqIn prog w A.in1 s x.2.2 y.2.2 true) (h : Q (.bool true) s) :
    wpAny (model prog w) A (compareOp .Eq (.ref a) (.ref b)) Q E s := by
  refine wpAny_richCompare_same_room (op := .Eq) da.typeIs db.typeIs PySem.F.slot_dict_eq (wpAny_call_entry PySem.F.slot_dict_eq da.typeIs PySem.F.entry_dict_eq ?_ (PySem.F.args_dict_eq_2 _ _)) hu
  show wpAny _ _ (Builtin.Dict.dictSlotArgs "__eq__" ⟨[.ref a, .ref b], []⟩ >>= _) _ _ s
  refine wpAny_bind ?_
  unfold Builtin.Dict.dictSlotArgs
  refine wpAny_bind (wpAny_notOrdered_dict da.typeIs ?_)
  show wpAny _ _ (pure (Value.ref a, Value.ref b)) _ _ s
  refine wpAny_pure ?_
  refine wpAny_bind (wpAny_isInstance (T := "dict") db.typeIs PySem.F.sub_dict_dict ?_)
  simp only [Bool.not_true, Bool.false_eq_true, if_false]
  refine wpAny_bind (wpAny_pure (wpAny_bind (wpAny_pure ?_)))
  refine wpAny_bind (samePairsH ha hb da db hr hk hv ?_)
  refine wpAny_pure ⟨_, rfl, ?_, ?_⟩
  · exact fun x => nomatch x
  · simpa using h
end

section
variable {h : Heap}
mutual
theorem nk_is : ∀ (d : D) (u : Value), Tree h d u → d.pure = true → NestedIs h d.nk u
  | .non, u, t, _ => by cases (show u = Value.none from t); exact .none
  | .bl b, u, t, _ => by cases (show u = Value.bool b from t); exact .bool rfl
  | .int i, u, t, _ => by obtain ⟨k, rfl⟩ := t; exact .int _ _
  | .str i, u, t, _ => by obtain ⟨k, rfl⟩ := t; exact .text _ _
  | .tup ds, u, t, p => by
    obtain ⟨a, its, rfl, ⟨o, h1, h2, n, h3⟩, ts⟩ := t
    exact .tup h1 h2 h3 (nks_is ds _ ts p)
  | .lst _, _, _, p => nomatch p
  | .fz _, _, _, p => nomatch p
  | .dct _ _, _, _, p => nomatch p
  | .nd _ _, _, _, p => nomatch p
  | .ref _, _, _, p => nomatch p
  | .exc _, _, _, p => nomatch p
theorem nks_is : ∀ (ds : List D) (us : List Value), Trees h ds us → pures ds = true → NestedAll h (nks ds) us
  | [], us, t, _ => by cases (show us = [] from t); exact .nil
  | d :: ds, us, t, p => by
    obtain ⟨u, r, rfl, t1, t2⟩ := t
    obtain ⟨p1, p2⟩ := Bool.and_eq_true_iff.mp (show (d.pure && pures ds) = true from p)
    exact .cons (nk_is d u t1 p1) (nks_is ds r t2 p2)
end
mutual
theorem nk_depth : ∀ (d : D), d.pure = true → d.nk.depth = d.depth
  | .non, _ => rfl
  | .bl b, _ => rfl
  | .int i, _ => rfl
  | .str i, _ => rfl
  | .tup ds, p => by
    show NestedKey.depthAll (nks ds) + 1 = depths ds + 1
    rw [nks_depth ds p]
  | .lst _, p => nomatch p
  | .fz _, p => nomatch p
  | .dct _ _, p => nomatch p
  | .nd _ _, p => nomatch p
  | .ref _, p => nomatch p
  | .exc _, p => nomatch p
theorem nks_depth : ∀ (ds : List D), pures ds = true → NestedKey.depthAll (nks ds) = depths ds
  | [], _ => rfl
  | d :: ds, p => by
    obtain ⟨p1, p2⟩ := Bool.and_eq_true_iff.mp (show (d.pure && pures ds) = true from p)
    show max _ _ = max _ _
    rw [nk_depth d p1, nks_depth ds p2]
end
mutual
theorem nk_eqv : ∀ (x y : D), x.pure = true → y.pure = true → x.eqv y = NestedKey.beq x.nk y.nk
  | .non, y, _, p => by cases y <;> first | rfl | nomatch p
  | .bl b, y, _, p => by
    cases y with
    | bl c => cases b <;> cases c <;> rfl
    | int c => rfl
    | _ => first | rfl | nomatch p
  | .int i, y, _, p => by cases y <;> first | rfl | nomatch p
  | .str i, y, _, p => by cases y <;> first | rfl | nomatch p
  | .tup ds, y, q, p => by
    cases y with
    | tup es => exact nks_eqv ds es q p
    | _ => first | rfl | nomatch p
  | .lst _, _, p, _ => nomatch p
  | .fz _, _, p, _ => nomatch p
  | .dct _ _, _, p, _ => nomatch p
  | .nd _ _, _, p, _ => nomatch p
  | .ref _, _, p, _ => nomatch p
  | .exc _, _, p, _ => nomatch p
theorem nks_eqv : ∀ (xs ys : List D), pures xs = true → pures ys = true → eqvs xs ys = NestedKey.beqAll (nks xs) (nks ys)
  | [], [], _, _ => rfl
  | [], _ :: _, _, _ => rfl
  | _ :: _, [], _, _ => rfl
  | x :: xs, y :: ys, p, q => by
    obtain ⟨p1, p2⟩ := Bool.and_eq_true_iff.mp (show (x.pure && pures xs) = true from p)
    obtain ⟨q1, q2⟩ := Bool.and_eq_true_iff.mp (show (y.pure && pures ys) = true from q)
    show (x.eqv y && eqvs xs ys) = _
    rw [nk_eqv x y p1 q1, nks_eqv xs ys p2 q2]; rfl
end
theorem nk_dec {x y : D} (p : x.pure = true) (q : y.pure = true) : x.eqv y = decide (x.nk = y.nk) := by rw [nk_eqv x y p q, NestedKey.decide_eq]
theorem tkey {k : D} (h : tkeyOk k = true) : k.pure = true ∧ k.depth ≤ 8 ∧ ∃ ks, k = .tup ks := by
  cases k with
  | tup ks =>
    obtain ⟨h1, h2⟩ := Bool.and_eq_true_iff.mp (show (pures ks && decide (D.depth (.tup ks) ≤ 8)) = true from h)
    exact ⟨h1, of_decide_eq_true h2, ks, rfl⟩
  | _ => nomatch h
end

section
variable (P : Program) (w : World) (h : Heap)
mutual
/-- x stands at u, dicts too -/
def DTree : D → Value → Prop
  | .non, u => u = .none
  | .bl b, u => u = .bool b
  | .int i, u => ∃ t, u = .int i t
  | .str x, u => ∃ t, u = .str x t
  | .tup ds, u => ∃ a its, u = .ref a ∧ h.IsTuple a its ∧ DTrees ds its.toList
  | .dct ks vs, u => ∃ a kvs, u = .ref a ∧ (a == sysModules) = false ∧ h.DictOf (mixKind P w) a kvs ∧ kvs.map (fun p => keyD p.1) = ks ∧ DTrees vs (kvs.map (·.2))
  | .nd ks vs, u => ∃ a ys, u = .ref a ∧ (a == sysModules) = false ∧ h.DictOfH (nestedKind P w) a ys ∧ ys.map (·.1) = ks.map D.nk ∧ DTrees vs (ys.map (·.2.2))
  | _, _ => False
def DTrees : List D → List Value → Prop
  | [], us => us = []
  | d :: ds, us => ∃ u r, us = u :: r ∧ DTree d u ∧ DTrees ds r
end
end
section
variable {P : Program} {w : World} {h : Heap}
theorem DTrees.get : ∀ (ds : List D) (us : List Value) (j : Nat) (u : Value), DTrees P w h ds us → us[j]? = some u → ∃ d, ds[j]? = some d ∧ DTree P w h d u
  | [], us, j, u, t, e => by
    rw [show us = [] from t] at e; simp at e
  | d :: ds, us, 0, u, t, e => by
    obtain ⟨w, r, rfl, h1, h2⟩ := t
    simp at e; subst e; exact ⟨d, rfl, h1⟩
  | d :: ds, us, j + 1, u, t, e => by
    obtain ⟨w, r, rfl, h1, h2⟩ := t
    obtain ⟨x, e1, e2⟩ := DTrees.get ds r j u h2 (by simpa using e)
    exact ⟨x, by simpa using e1, e2⟩
theorem DTrees.length : ∀ (ds : List D) (us : List Value), DTrees P w h ds us → us.length = ds.length
  | [], _, e => by rw [show _ = [] from e]; rfl
  | d :: ds, _, e => by
    obtain ⟨u, r, rfl, _, q⟩ := e
    rw [List.length_cons, List.length_cons, DTrees.length ds r q]
mutual
theorem Tree.dt : ∀ (d : D) (u : Value), Tree h d u → d.pure = true → DTree P w h d u
  | .non, u, t, _ => t
  | .bl b, u, t, _ => t
  | .int i, u, t, _ => t
  | .str i, u, t, _ => t
  | .tup ds, u, t, p => by
    obtain ⟨a, its, rfl, q, ts⟩ := t
    exact ⟨a, its, rfl, q, Trees.dt ds _ ts p⟩
  | .lst _, _, _, p => nomatch p
  | .fz _, _, _, p => nomatch p
  | .dct _ _, _, _, p => nomatch p
  | .nd _ _, _, _, p => nomatch p
  | .ref _, _, _, p => nomatch p
  | .exc _, _, _, p => nomatch p
theorem Trees.dt : ∀ (ds : List D) (us : List Value), Trees h ds us → pures ds = true → DTrees P w h ds us
  | [], us, t, _ => t
  | d :: ds, us, t, p => by
    obtain ⟨u, r, rfl, t1, t2⟩ := t
    obtain ⟨p1, p2⟩ := Bool.and_eq_true_iff.mp (show (d.pure && pures ds) = true from p)
    exact ⟨u, r, rfl, Tree.dt d u t1 p1, Trees.dt ds r t2 p2⟩
end
theorem keyD_inj {a b : Key} (h : keyD a = keyD b) : a = b := by
  cases a <;> cases b <;> (unfold keyD at h; cases h) <;> rfl
theorem at_nodup {K : Type} [DecidableEq K] : ∀ {ka kb : List (K × Value)} {k : K} {v y : Value}, ka.map (·.1) = kb.map (·.1) → (ka.map (·.1)).Nodup → (k, v) ∈ ka → valueAt kb k = some y → ∃ i : Nat, ka[i]? = some (k, v) ∧ kb[i]? = some (k, y)
  | [], [], _, _, _, _, _, m, _ => nomatch m
  | [], _ :: _, _, _, _, e, _, _, _ => nomatch e
  | _ :: _, [], _, _, _, e, _, _, _ => nomatch e
  | a :: ka, b :: kb, k, v, y, e, nd, m, hv => by
    injection e with e1 e2
    obtain ⟨n1, n2⟩ := List.nodup_cons.mp nd
    rcases List.mem_cons.mp m with m | m
    · subst m
      refine ⟨0, rfl, ?_⟩
      have e1' : b.1 = k := e1.symm
      unfold valueAt at hv
      rw [List.find?_cons_of_pos (by simpa using e1')] at hv
      obtain ⟨b1, b2⟩ := b
      cases hv
      simp at e1'; rw [e1']; rfl
    · have hne : b.1 ≠ k := fun z => n1 (by
        have e1' : a.1 = b.1 := e1
        show a.1 ∈ _
        rw [show a.1 = k from e1'.trans z]
        exact List.mem_map.mpr ⟨_, m, rfl⟩)
      unfold valueAt at hv
      rw [List.find?_cons_of_neg (by simpa using hne)] at hv
      obtain ⟨i, h1, h2⟩ := at_nodup (ka := ka) (kb := kb) e2 n2 m hv
      exact ⟨i + 1, by simpa using h1, by simpa using h2⟩
theorem at_some {K : Type} [DecidableEq K] {ka kb : List (K × Value)} {p : K × Value} (e : ka.map (·.1) = kb.map (·.1)) (m : p ∈ ka) : (valueAt kb p.1).isSome = true := by
  have hm : p.1 ∈ kb.map (·.1) := by rw [← e]; exact List.mem_map.mpr ⟨p, m, rfl⟩
  obtain ⟨q, hq, e2⟩ := List.mem_map.mp hm
  unfold valueAt
  rw [Option.isSome_map, List.find?_isSome]
  exact ⟨q, hq, by simpa using e2⟩
end
section
variable {P : Program} {w : World} {s : Shared}
mutual
theorem dtree_eq : ∀ (x : D) (A : Around) (u v : Value), DTree P w s.heap x u → DTree P w s.heap x v → A.units + x.depth + 20 < cLine → EqIn P w A s u v true
  | .non, A, u, v, h1, h2, _ => by
    cases (show u = Value.none from h1); cases (show v = Value.none from h2); exact (EqAt.same _).inModel P w
  | .bl b, A, u, v, h1, h2, _ => by
    cases (show u = Value.bool b from h1); cases (show v = Value.bool b from h2); exact (EqAt.same _).inModel P w
  | .int i, A, u, v, h1, h2, _ => by
    have := eqAt_tree (.int i) (.int i) A s u v h1 h2 (by show A.units + 0 < cLine; omega)
    rw [show (D.int i).eqv (.int i) = true by simp [D.eqv]] at this
    exact this.inModel P w
  | .str i, A, u, v, h1, h2, _ => by
    have := eqAt_tree (.str i) (.str i) A s u v h1 h2 (by show A.units + 0 < cLine; omega)
    rw [show (D.str i).eqv (.str i) = true by simp [D.eqv]] at this
    exact this.inModel P w
  | .tup ds, A, u, v, h1, h2, hu => by
    obtain ⟨a, its, rfl, q1, t1⟩ := h1
    obtain ⟨b, jts, rfl, q2, t2⟩ := h2
    have hu' : A.units + (depths ds + 1) + 20 < cLine := hu
    by_cases hab : a = b
    · rw [hab]; exact (EqAt.same _).inModel P w
    · have hl1 := DTrees.length _ _ t1
      have hl2 := DTrees.length _ _ t2
      simp only [Array.length_toList] at hl1 hl2
      refine EqIn.of_refs hab fun E Q hq => rcIn_tuples (e := fun _ => true) q1 q2 (by omega) (fun j j1 j2 => ?_) ?_
      · have := dtrees_eq ds A.in1 its.toList jts.toList t1 t2 (by show A.units + 1 + depths ds + 20 < cLine; omega) j (by simpa using j1) (by simpa using j2)
        simpa using this
      · have e : ((List.range (min its.size jts.size)).all (fun _ => true) && its.size == jts.size) = true := by simp [hl1, hl2]
        rw [e]; exact hq
  | .dct ks ds, A, u, v, h1, h2, hu => by
    obtain ⟨a, ka, rfl, sa, q1, k1, t1⟩ := h1
    obtain ⟨b, kb, rfl, sb, q2, k2, t2⟩ := h2
    have hu' : A.units + (max (depths ks) (depths ds) + 1) + 20 < cLine := hu
    by_cases hab : a = b
    · rw [hab]; exact (EqAt.same _).inModel P w
    · have hk : ka.map (·.1) = kb.map (·.1) := by
        have e : (ka.map (·.1)).map keyD = (kb.map (·.1)).map keyD := by
          rw [List.map_map, List.map_map]; exact k1.trans k2.symm
        exact (List.map_inj_right fun _ _ => keyD_inj).mp e
      have hl : ka.length = kb.length := by simpa using congrArg List.length hk
      have nd : (ka.map (·.1)).Nodup := by obtain ⟨_, _, _, _, _, _, _, _, n⟩ := q1; exact n
      refine EqIn.of_refs hab fun E Q hq => keq_eqIn sa sb q1 q2 (by omega) (fun _ => KeqHitsIn.of (e := fun _ => true) ka fun k v y m hv => ?_) ?_
      · obtain ⟨i, i1, i2⟩ := at_nodup hk nd m hv
        have j1 : (ka.map (·.2))[i]? = some v := by rw [List.getElem?_map, i1]; rfl
        have j2 : (kb.map (·.2))[i]? = some y := by rw [List.getElem?_map, i2]; rfl
        obtain ⟨l1, e1⟩ := List.getElem?_eq_some_iff.mp j1
        obtain ⟨l2, e2⟩ := List.getElem?_eq_some_iff.mp j2
        have := dtrees_eq ds A.in1 _ _ t1 t2 (by show A.units + 1 + depths ds + 20 < cLine; omega) i l1 l2
        rw [e1, e2] at this
        exact this
      · have e : (ka.length == kb.length && ka.all fun p => (valueAt kb p.1).isSome && (fun _ => true) p.1) = true := by
          rw [hl]; simp only [beq_self_eq_true, Bool.true_and, List.all_eq_true, Bool.and_true]
          exact fun p m => at_some hk m
        rw [e]; exact hq
  | .nd ks ds, A, u, v, h1, h2, hu => by
    obtain ⟨a, ka, rfl, sa, q1, k1, t1⟩ := h1
    obtain ⟨b, kb, rfl, sb, q2, k2, t2⟩ := h2
    have hu' : A.units + (max (depths ks) (depths ds) + 1) + 20 < cLine := hu
    by_cases hab : a = b
    · rw [hab]; exact (EqAt.same _).inModel P w
    · refine EqIn.of_refs hab fun E Q hq => rc_nd (knd := nestedKind P w) sa sb q1 q2 (by omega) (by show A.units + 1 + 8 < cLine; omega) (k1.trans k2.symm) (fun i x y i1 i2 => ?_) hq
      have j1 : (ka.map (·.2.2))[i]? = some x.2.2 := by rw [List.getElem?_map, i1]; rfl
      have j2 : (kb.map (·.2.2))[i]? = some y.2.2 := by rw [List.getElem?_map, i2]; rfl
      obtain ⟨l1, e1⟩ := List.getElem?_eq_some_iff.mp j1
      obtain ⟨l2, e2⟩ := List.getElem?_eq_some_iff.mp j2
      have := dtrees_eq ds A.in1 _ _ t1 t2 (by show A.units + 1 + depths ds + 20 < cLine; omega) i l1 l2
      rw [e1, e2] at this
      exact this
  | .lst _, _, _, _, h, _, _ => h.elim
  | .fz _, _, _, _, h, _, _ => h.elim
  | .ref _, _, _, _, h, _, _ => h.elim
  | .exc _, _, _, _, h, _, _ => h.elim
theorem dtrees_eq : ∀ (xs : List D) (A : Around) (us vs : List Value), DTrees P w s.heap xs us → DTrees P w s.heap xs vs → A.units + depths xs + 20 < cLine → ∀ (j : Nat) (h1 : j < us.length) (h2 : j < vs.length), EqIn P w A s us[j] vs[j] true
  | [], _, us, _, h, _, _, j, h1, _ => by cases (show us = [] from h); exact absurd h1 (Nat.not_lt_zero _)
  | x :: xs, A, _, _, h, h', hu, j, h1, h2 => by
    obtain ⟨u, r, rfl, t1, t2⟩ := h
    obtain ⟨u', r', rfl, t1', t2'⟩ := h'
    have hu' : A.units + max x.depth (depths xs) + 20 < cLine := hu
    cases j with
    | zero => exact dtree_eq x A u u' t1 t1' (by omega)
    | succ j => exact dtrees_eq xs A r r' t2 t2' (by omega) j (by simpa using h1) (by simpa using h2)
end
theorem dtree_rc : ∀ (x : D) (A : Around) (u v : Value), DTree P w s.heap x u → DTree P w s.heap x v → A.units + x.depth + 20 < cLine →
    ∀ (E : Value → Shared → Prop) (Q : Value → Shared → Prop), Q (.bool true) s → wpAny (model P w) A (compareOp .Eq u v) Q E s := fun x A u v h1 h2 hu E Q hq => by
  have leaf : Tree s.heap x u → Tree s.heap x v → x.eqv x = true → wpAny (model P w) A (compareOp .Eq u v) Q E s := fun t1 t2 e =>
    rcAt_tree x x A s u v t1 t2 (by omega) _ _ _ _ (by rw [e]; exact hq)
  cases x with
  | non => exact leaf h1 h2 rfl
  | bl b => exact leaf h1 h2 (by simp [D.eqv])
  | int i => exact leaf h1 h2 (by simp [D.eqv])
  | str i => exact leaf h1 h2 (by simp [D.eqv])
  | tup ds =>
    obtain ⟨a, its, rfl, q1, t1⟩ := h1
    obtain ⟨b, jts, rfl, q2, t2⟩ := h2
    have hu' : A.units + (depths ds + 1) + 20 < cLine := hu
    have hl1 := DTrees.length _ _ t1
    have hl2 := DTrees.length _ _ t2
    simp only [Array.length_toList] at hl1 hl2
    refine rcIn_tuples (e := fun _ => true) q1 q2 (by omega) (fun j j1 j2 => ?_) ?_
    · have := dtrees_eq ds A.in1 its.toList jts.toList t1 t2 (by show A.units + 1 + depths ds + 20 < cLine; omega) j (by simpa using j1) (by simpa using j2)
      simpa using this
    · have e : ((List.range (min its.size jts.size)).all (fun _ => true) && its.size == jts.size) = true := by simp [hl1, hl2]
      rw [e]; exact hq
  | dct ks ds =>
    obtain ⟨a, ka, rfl, sa, q1, k1, t1⟩ := h1
    obtain ⟨b, kb, rfl, sb, q2, k2, t2⟩ := h2
    have hu' : A.units + (max (depths ks) (depths ds) + 1) + 20 < cLine := hu
    have hk : ka.map (·.1) = kb.map (·.1) := by
      have e : (ka.map (·.1)).map keyD = (kb.map (·.1)).map keyD := by
        rw [List.map_map, List.map_map]; exact k1.trans k2.symm
      exact (List.map_inj_right fun _ _ => keyD_inj).mp e
    have hl : ka.length = kb.length := by simpa using congrArg List.length hk
    have nd : (ka.map (·.1)).Nodup := by obtain ⟨_, _, _, _, _, _, _, _, n⟩ := q1; exact n
    refine keq_eqIn sa sb q1 q2 (by omega) (fun _ => KeqHitsIn.of (e := fun _ => true) ka fun k v y m hv => ?_) ?_
    · obtain ⟨i, i1, i2⟩ := at_nodup hk nd m hv
      have j1 : (ka.map (·.2))[i]? = some v := by rw [List.getElem?_map, i1]; rfl
      have j2 : (kb.map (·.2))[i]? = some y := by rw [List.getElem?_map, i2]; rfl
      obtain ⟨l1, e1⟩ := List.getElem?_eq_some_iff.mp j1
      obtain ⟨l2, e2⟩ := List.getElem?_eq_some_iff.mp j2
      have := dtrees_eq ds A.in1 _ _ t1 t2 (by show A.units + 1 + depths ds + 20 < cLine; omega) i l1 l2
      rw [e1, e2] at this
      exact this
    · have e : (ka.length == kb.length && ka.all fun p => (valueAt kb p.1).isSome && (fun _ => true) p.1) = true := by
        rw [hl]; simp only [beq_self_eq_true, Bool.true_and, List.all_eq_true, Bool.and_true]
        exact fun p m => at_some hk m
      rw [e]; exact hq
  | nd ks ds =>
    obtain ⟨a, ka, rfl, sa, q1, k1, t1⟩ := h1
    obtain ⟨b, kb, rfl, sb, q2, k2, t2⟩ := h2
    have hu' : A.units + (max (depths ks) (depths ds) + 1) + 20 < cLine := hu
    refine rc_nd (knd := nestedKind P w) sa sb q1 q2 (by omega) (by show A.units + 1 + 8 < cLine; omega) (k1.trans k2.symm) (fun i x y i1 i2 => ?_) hq
    have j1 : (ka.map (·.2.2))[i]? = some x.2.2 := by rw [List.getElem?_map, i1]; rfl
    have j2 : (kb.map (·.2.2))[i]? = some y.2.2 := by rw [List.getElem?_map, i2]; rfl
    obtain ⟨l1, e1⟩ := List.getElem?_eq_some_iff.mp j1
    obtain ⟨l2, e2⟩ := List.getElem?_eq_some_iff.mp j2
    have := dtrees_eq ds A.in1 _ _ t1 t2 (by show A.units + 1 + depths ds + 20 < cLine; omega) i l1 l2
    rw [e1, e2] at this
    exact this
  | _ => exact h1.elim
end
section
variable {α β γ : Type}
theorem pr_map_eq {F : α → β → Prop} {f : α → γ} {g : β → γ} : ∀ {l1 : List α} {l2 : List β}, Paired F l1 l2 → (∀ a b, F a b → f a = g b) → l1.map f = l2.map g
  | _, _, .nil, _ => rfl
  | _, _, .cons h t, e => by rw [List.map_cons, List.map_cons, e _ _ h, pr_map_eq t e]
theorem pr_vals {F : α → β → Prop} {f : α → V} {g : β → Value} : ∀ {l1 : List α} {l2 : List β}, Paired F l1 l2 → (∀ a b, F a b → RelV (f a) (g b)) → Vals (l1.map f) (l2.map g)
  | _, _, .nil, _ => .nil
  | _, _, .cons h t, e => .cons (e _ _ h) (pr_vals t e)
theorem vals_map {f : α → V} {g : α → Value} (e : ∀ a, RelV (f a) (g a)) : ∀ l : List α, Vals (l.map f) (l.map g)
  | [] => .nil
  | a :: l => .cons (e a) (vals_map e l)
theorem pures_of' : ∀ {ks : List D}, (∀ k ∈ ks, k.pure = true) → pures ks = true
  | [], _ => rfl
  | k :: ks, h => by
    show (k.pure && pures ks) = true
    rw [h k (by simp), pures_of' fun d m => h d (by simp [m])]; rfl
end
end Ev
end
section
set_option Elab.async false
set_option linter.all false
set_option maxRecDepth 100000
namespace Ev
open PySem PySem.Spec PyProof.Rows L2 PySem.SeqAt
section
variable {X : Cx} {C : Nat → Addr} {pins : List (Addr × Obj)} {σ : Slots} {H : Hp} {s : Shared} {μ : List Addr} {S : Sto}
mutual
theorem tree_pure (I : Inv X pins σ H s) : ∀ (d : D) (v : V) (fp : List Addr) (u : Value), Rep (tOf X C) H μ d v fp → RelV v u → d.pure = true → Tree s.heap d u
  | .non, _, _, u, h, r, _ => by obtain ⟨rfl, _⟩ := h; exact r
  | .bl b, _, _, u, h, r, _ => by obtain ⟨rfl, _⟩ := h; exact r
  | .int b, _, _, u, h, r, _ => by obtain ⟨rfl, _⟩ := h; exact r
  | .str b, _, _, u, h, r, _ => by obtain ⟨rfl, _⟩ := h; exact r
  | .tup ds, _, fp, u, h, r, p => by
    obtain ⟨a, vs, rfl, q, rs⟩ := h
    obtain ⟨its, r', it, _⟩ := I.tuple q
    exact ⟨a, its.toArray, r, it, trees_pure I ds vs fp its rs r' p⟩
  | .lst _, _, _, _, _, _, p => nomatch p
  | .fz _, _, _, _, _, _, p => nomatch p
  | .dct _ _, _, _, _, _, _, p => nomatch p
  | .nd _ _, _, _, _, _, _, p => nomatch p
  | .ref _, _, _, _, _, _, p => nomatch p
  | .exc _, _, _, _, _, _, p => nomatch p
theorem trees_pure (I : Inv X pins σ H s) : ∀ (ds : List D) (vs : List V) (fp : List Addr) (us : List Value), Reps (tOf X C) H μ ds vs fp → Vals vs us → pures ds = true → Trees s.heap ds us
  | [], vs, _, us, h, r, _ => by
    obtain ⟨rfl, _⟩ := h
    cases r; rfl
  | d :: ds, _, _, us, h, r, p => by
    obtain ⟨v, w, f1, f2, rfl, h1, h2, rfl⟩ := h
    obtain ⟨p1, p2⟩ := Bool.and_eq_true_iff.mp (show (d.pure && pures ds) = true from p)
    cases r with
    | cons r1 r2 => exact ⟨_, _, rfl, tree_pure I d v f1 _ h1 r1 p1, trees_pure I ds w f2 _ h2 r2 p2⟩
end
theorem mapM_cons' {α β : Type} {f : α → Option β} {a : α} {as : List α} {bs : List β} (h : (a :: as).mapM f = some bs) : ∃ b r, bs = b :: r ∧ f a = some b ∧ as.mapM f = some r := by
  rw [List.mapM_cons] at h
  cases e : f a with
  | none => rw [e] at h; simp at h
  | some b =>
    cases e2 : as.mapM f with
    | none => rw [e, e2] at h; simp at h
    | some r =>
      rw [e, e2] at h
      have h' : some (b :: r) = some bs := h
      exact ⟨b, r, (Option.some.inj h').symm, rfl, rfl⟩
theorem trees_map {f : D → Option D} (hf : ∀ (d : D) (v : V) (fp : List Addr) (u : Value) (x : D), Rep (tOf X C) H μ d v fp → RelV v u → f d = some x → Tree s.heap x u) :
    ∀ (ds : List D) (vs : List V) (fp : List Addr) (us : List Value) (xs : List D), Reps (tOf X C) H μ ds vs fp → Vals vs us → ds.mapM f = some xs → Trees s.heap xs us
  | [], vs, _, us, xs, h, r, e => by
    obtain ⟨rfl, _⟩ := h
    cases r
    have : some [] = some xs := e
    cases this; rfl
  | d :: ds, _, _, us, xs, h, r, e => by
    obtain ⟨v, w, f1, f2, rfl, h1, h2, rfl⟩ := h
    obtain ⟨b, q, rfl, e1, e2⟩ := mapM_cons' e
    cases r with
    | cons r1 r2 => exact ⟨_, _, rfl, hf d v f1 _ b h1 r1 e1, trees_map hf ds w f2 _ q h2 r2 e2⟩
theorem lst_at (I : Inv X pins σ H s) {a : Addr} {vs : List V} (h : SqL X.K H a vs) : ∃ its : List Value, Vals vs its ∧ s.heap.IsList a its.toArray ∧ vs.length ≤ sizeLine := by
  obtain ⟨its, r, pl, z⟩ := I.list h
  exact ⟨its, r, pl.isList, z⟩
theorem tree_res (I : Inv X pins σ H s) (ok : StOk (tOf X C) H μ S) : ∀ (k : Nat) (d : D) (v : V) (fp : List Addr) (u : Value) (x : D), Rep (tOf X C) H μ d v fp → RelV v u → res S k d = some x → Tree s.heap x u
  | 0, _, _, _, _, _, _, _, e => nomatch e
  | k + 1, d, v, fp, u, x, h, r, e => by
    unfold res at e
    split at e
    · rename_i p
      cases e
      exact tree_pure I d v fp u h r p
    · split at e
      · rename_i ds _
        obtain ⟨xs, e1, rfl⟩ := Option.map_eq_some_iff.mp e
        obtain ⟨a, vs, rfl, q, rs⟩ := h
        obtain ⟨its, r', it, _⟩ := I.tuple q
        exact ⟨a, its.toArray, r, it, trees_map (tree_res I ok k) ds vs fp its xs rs r' e1⟩
      · rename_i ds _
        obtain ⟨xs, e1, rfl⟩ := Option.map_eq_some_iff.mp e
        obtain ⟨a, vs, fp', rfl, q, rs, _⟩ := h
        obtain ⟨its, r', it, _⟩ := lst_at I (SqL.of q)
        exact ⟨a, its.toArray, r, it, trees_map (tree_res I ok k) ds vs fp' its xs rs r' e1⟩
      · rename_i ds _
        obtain ⟨xs, e1, rfl⟩ := Option.map_eq_some_iff.mp e
        obtain ⟨a, vs, rfl, q, rs, _⟩ := h
        obtain ⟨its, r', it, _⟩ := lst_at I q.sq
        exact ⟨a, its.toArray, r, it, trees_map (tree_res I ok k) ds vs fp its xs rs r' e1⟩
      · rename_i n _
        split at e
        · rename_i ds hS
          obtain ⟨xs, e1, rfl⟩ := Option.map_eq_some_iff.mp e
          obtain ⟨a, rfl, hm, _⟩ := h
          obtain ⟨vs, q, rs⟩ := ok.at_ n _ a hS hm
          obtain ⟨its, r', it, _⟩ := lst_at I (SqL.of q)
          exact ⟨a, its.toArray, r, it, trees_map (tree_res I ok k) ds vs [] its xs rs r' e1⟩
        · cases e
      · cases e
theorem trees_res (I : Inv X pins σ H s) (ok : StOk (tOf X C) H μ S) (k : Nat) (ds : List D) (vs : List V) (fp : List Addr) (us : List Value) (xs : List D) (h : Reps (tOf X C) H μ ds vs fp) (r : Vals vs us) (e : resL S k ds = some xs) : Trees s.heap xs us := by
  unfold resL at e
  split at e
  · rename_i p
    cases e
    exact trees_pure I ds vs fp us h r p
  · exact trees_map (tree_res I ok k) ds vs fp us xs h r e
theorem Trees.get {h : Heap} : ∀ (ds : List D) (us : List Value) (j : Nat) (u : Value), Trees h ds us → us[j]? = some u → ∃ d, ds[j]? = some d ∧ Tree h d u
  | [], us, j, u, t, e => by
    rw [show us = [] from t] at e; simp at e
  | d :: ds, us, 0, u, t, e => by
    obtain ⟨w, r, rfl, h1, h2⟩ := t
    simp at e; subst e; exact ⟨d, rfl, h1⟩
  | d :: ds, us, j + 1, u, t, e => by
    obtain ⟨w, r, rfl, h1, h2⟩ := t
    obtain ⟨x, e1, e2⟩ := Trees.get ds r j u h2 (by simpa using e)
    exact ⟨x, by simpa using e1, e2⟩
open Classical in
/-- the items' answers as a function of the values -/
noncomputable def ansOf (h : Heap) (y : D) (u : Value) : Bool := if hx : ∃ x, Tree h x u then (Classical.choose hx).eqv y else false
theorem ansOf_eq {h : Heap} {y x : D} {u : Value} (t : Tree h x u) : ansOf h y u = x.eqv y := by
  unfold ansOf
  have hx : ∃ x, Tree h x u := ⟨x, t⟩
  rw [dif_pos hx, Tree.unique _ _ u (Classical.choose_spec hx) t]
theorem ans_any {h : Heap} {y : D} : ∀ (xs : List D) (us : List Value), Trees h xs us → us.any (ansOf h y) = xs.any fun z => z.eqv y
  | [], us, t => by rw [show us = [] from t]; rfl
  | x :: xs, us, t => by
    obtain ⟨w, r, rfl, h1, h2⟩ := t
    rw [List.any_cons, List.any_cons, ansOf_eq h1, ans_any xs r h2]
theorem depths_get : ∀ (xs : List D) (j : Nat) (x : D), xs[j]? = some x → x.depth ≤ depths xs
  | [], _, _, e => by simp at e
  | x :: xs, 0, y, e => by simp at e; subst e; exact Nat.le_max_left _ _
  | x :: xs, j + 1, y, e => Nat.le_trans (depths_get xs j y (by simpa using e)) (Nat.le_max_right _ _)
theorem nd_heap (I : Inv X pins σ H s) {a : Addr} {ks : List D} {xs : List (NestedKey × Addr × V)} (q : NdAt X.w H a ks xs) (rk : Reps (tOf X C) H μ ks (xs.map fun x => .ref x.2.1) []) :
    (a == sysModules) = false ∧ xs.length ≤ sizeLine ∧ ∃ ys : List (NestedKey × Addr × Value), Paired (fun (p : NestedKey × Addr × V) (q : NestedKey × Addr × Value) => p.1 = q.1 ∧ p.2.1 = q.2.1 ∧ RelV p.2.2 q.2.2) xs ys ∧ s.heap.DictOfH (nestedKind X.prog X.w) a ys ∧ ys.map (·.1) = ks.map D.nk := by
  obtain ⟨⟨hs, hl, ys, pr, o, es, ep, h1, h2, h3, h4, h5⟩, _⟩ := I.hok a _ q.1
  have e1 : xs.map (·.1) = ys.map (·.1) := pr_map_eq pr fun _ _ z => z.1
  have e2 : xs.map (·.2.1) = ys.map (·.2.1) := pr_map_eq pr fun _ _ z => z.2.1
  refine ⟨hs, hl, ys, pr, ⟨o, es, ep, h1, h2, h3, h4, fun y m => ?_, h5⟩, e1.symm.trans q.2.1⟩
  obtain ⟨j, hj, ej⟩ := List.mem_iff_getElem.mp m
  have hx : j < xs.length := by have := congrArg List.length e1; simp at this; omega
  have hkl : ks.length = xs.length := by have := congrArg List.length q.2.1; simp at this; omega
  have hk : j < ks.length := by omega
  have hvals : Vals (xs.map fun x => V.ref x.2.1) (xs.map fun x => Value.ref x.2.1) := vals_map (f := fun x : NestedKey × Addr × V => V.ref x.2.1) (g := fun x : NestedKey × Addr × V => Value.ref x.2.1) (fun x => (rfl : Value.ref x.2.1 = Value.ref x.2.1)) xs
  have ts := trees_pure I ks _ [] _ rk hvals (pures_of' fun k m => (tkey (q.2.2 k m)).1)
  obtain ⟨d, hd, td⟩ := Trees.get ks _ j (.ref (xs[j]).2.1) ts (by rw [List.getElem?_map, List.getElem?_eq_getElem hx]; rfl)
  have hd' : d ∈ ks := List.mem_of_getElem? hd
  obtain ⟨p1, p2, _⟩ := tkey (q.2.2 d hd')
  have ea : (xs[j]).2.1 = y.2.1 := by
    have := congrArg (·[j]?) e2
    simp only [List.getElem?_map, List.getElem?_eq_getElem hx, List.getElem?_eq_getElem hj, Option.map_some, Option.some.injEq] at this
    rw [this, ej]
  have ek : y.1 = d.nk := by
    have := congrArg (·[j]?) (e1.symm.trans q.2.1)
    simp only [List.getElem?_map, List.getElem?_eq_getElem hj, hd, Option.map_some, Option.some.injEq] at this
    rw [← this, ej]
  rw [ea] at td
  exact ⟨by rw [ek]; exact nk_is d _ td p1, by rw [ek, nk_depth d p1]; exact p2⟩
theorem dtrees_map {f : D → Option D} (hf : ∀ (d : D) (v : V) (fp : List Addr) (u : Value) (x : D), Rep (tOf X C) H μ d v fp → RelV v u → f d = some x → DTree X.prog X.w s.heap x u) :
    ∀ (ds : List D) (vs : List V) (fp : List Addr) (us : List Value) (xs : List D), Reps (tOf X C) H μ ds vs fp → Vals vs us → ds.mapM f = some xs → DTrees X.prog X.w s.heap xs us
  | [], vs, _, us, xs, h, r, e => by
    obtain ⟨rfl, _⟩ := h
    cases r
    have : some [] = some xs := e
    cases this; rfl
  | d :: ds, _, _, us, xs, h, r, e => by
    obtain ⟨v, w, f1, f2, rfl, h1, h2, rfl⟩ := h
    obtain ⟨b, q, rfl, e1, e2⟩ := mapM_cons' e
    cases r with
    | cons r1 r2 => exact ⟨_, _, rfl, hf d v f1 _ b h1 r1 e1, dtrees_map hf ds w f2 _ q h2 r2 e2⟩
theorem dk_heap (I : Inv X pins σ H s) {a : Addr} {ks : List D} {us : List V} (q : DictAt H a ks us) : (a == sysModules) = false ∧ ∃ vs, s.heap.DictOf (mixKind X.prog X.w) a vs ∧ vs.map (fun p => keyD p.1) = ks ∧ Vals us (vs.map (·.2)) := by
  obtain ⟨kvs, h1, rfl, rfl, _⟩ := q
  obtain ⟨_, hs, vs, rel, dd⟩ := dk_of I.hok h1
  refine ⟨hs, vs, dd, ?_, pr_vals rel fun _ _ z => z.2⟩
  have e : kvs.map (·.1) = vs.map (·.1) := pr_map_eq rel fun _ _ z => z.1
  have e2 := congrArg (List.map keyD) e
  rw [List.map_map, List.map_map] at e2
  exact e2.symm
theorem dtree_res (I : Inv X pins σ H s) (ok : StOk (tOf X C) H μ S) : ∀ (k : Nat) (d : D) (v : V) (fp : List Addr) (u : Value) (x : D), Rep (tOf X C) H μ d v fp → RelV v u → resD S k d = some x → DTree X.prog X.w s.heap x u
  | 0, _, _, _, _, _, _, _, e => nomatch e
  | k + 1, d, v, fp, u, x, h, r, e => by
    have dcase : ∀ (a : Addr) (ks ds xs : List D) (us : List V) (f' : List Addr), DictAt H a ks us → Reps (tOf X C) H μ ds us f' → ds.mapM (resD S k) = some xs → DTree X.prog X.w s.heap (.dct ks xs) (.ref a) := fun a ks ds xs us f' q rs e1 => by
      obtain ⟨hs, vs, dd, hk, hv⟩ := dk_heap I q
      exact ⟨a, vs, rfl, hs, dd, hk, dtrees_map (dtree_res I ok k) ds us f' _ xs rs hv e1⟩
    have ncase : ∀ (a : Addr) (ks ds xs : List D) (zs : List (NestedKey × Addr × V)) (f' : List Addr), NdAt X.w H a ks zs → Reps (tOf X C) H μ ks (zs.map fun x => .ref x.2.1) [] → Reps (tOf X C) H μ ds (zs.map (·.2.2)) f' → ds.mapM (resD S k) = some xs → DTree X.prog X.w s.heap (.nd ks xs) (.ref a) := fun a ks ds xs zs f' q rk rs e1 => by
      obtain ⟨hs, _, ys, pr, dd, hk⟩ := nd_heap I q rk
      exact ⟨a, ys, rfl, hs, dd, hk, dtrees_map (dtree_res I ok k) ds _ f' _ xs rs (pr_vals pr fun _ _ z => z.2.2) e1⟩
    unfold resD at e
    split at e
    · rename_i p
      cases e
      exact Tree.dt d u (tree_pure I d v fp u h r p) p
    · split at e
      · rename_i ds _
        obtain ⟨xs, e1, rfl⟩ := Option.map_eq_some_iff.mp e
        obtain ⟨a, vs, rfl, q, rs⟩ := h
        obtain ⟨its, r', it, _⟩ := I.tuple q
        exact ⟨a, its.toArray, r, it, dtrees_map (dtree_res I ok k) ds vs fp its xs rs r' e1⟩
      · rename_i ks ds _
        obtain ⟨xs, e1, rfl⟩ := Option.map_eq_some_iff.mp e
        obtain ⟨a, us, fp', rfl, q, rs, _⟩ := h
        cases r
        exact dcase a ks ds xs us fp' q rs e1
      · rename_i ks ds _
        obtain ⟨xs, e1, rfl⟩ := Option.map_eq_some_iff.mp e
        obtain ⟨a, zs, fp', rfl, q, rk, rs, _⟩ := h
        cases r
        exact ncase a ks ds xs zs fp' q rk rs e1
      · rename_i n _
        split at e
        · rename_i ks ds hS
          obtain ⟨xs, e1, rfl⟩ := Option.map_eq_some_iff.mp e
          obtain ⟨a, rfl, hm, _⟩ := h
          obtain ⟨us, q, rs⟩ := ok.at_ n _ a hS hm
          cases r
          exact dcase a ks ds xs us [] q rs e1
        · rename_i ks ds hS
          obtain ⟨xs, e1, rfl⟩ := Option.map_eq_some_iff.mp e
          obtain ⟨a, rfl, hm, _⟩ := h
          obtain ⟨zs, q, rk, rs⟩ := ok.at_ n _ a hS hm
          cases r
          exact ncase a ks ds xs zs [] q rk rs e1
        · cases e
      · cases e
end
theorem gives_le_bb (a b : Bool) : Gives (Builtin.«int.__le__» ⟨[.bool a, .bool b], []⟩) (.val (Value.bool (decide ((if a = true then (1 : Int) else 0) ≤ (if b = true then (1 : Int) else 0))))) :=
  .of_wp fun M A E s Q h => by obtain ⟨hp, g, d, tk, os⟩ := s; wp_walk; exact ⟨_, rfl, h⟩
theorem le_bb {prog : Program} {w : World} {A : Around} {E : Value → Shared → Prop} {s : Shared} {a b : Bool} {Q : Value → Shared → Prop} (h : Q (.bool (!a || b)) s) : wpAny (model prog w) A (compareOp .LtE (.bool a) (.bool b)) Q E s :=
  compareOp_gives (op := .LtE) (T := "bool") rfl rfl F.slot_bool_le F.entry_int_le (F.args_int_le_2 _ _) (gives_le_bb a b) (fun x => nomatch x) (by
    have e : decide ((if a = true then (1 : Int) else 0) ≤ (if b = true then (1 : Int) else 0)) = (!a || b) := by cases a <;> cases b <;> decide
    rw [e]; exact h)
def cOf : Cmp → CmpOp
  | .eq => .Eq
  | .ne => .NotEq
  | .lt => .Lt
  | .le => .LtE
  | .gt => .Gt
  | .ge => .GtE
  | .in_ => .In
  | .notin => .NotIn
def rCmp (T : Pgm) (o : Cmp) : R2 := fun x y H Q => ∃ d e S μ f1 f2 b, In2 T H μ S d e x y f1 f2 ∧ cmpE S o d e = some b ∧ Q (.bl b) H
theorem keyV {T : Pgm} {H : Hp} {μ : List Addr} {d : D} {v : V} {fp : List Addr} (r : Rep T H μ d v fp) (h : keyOk d = true) : ∃ k : Key, d = keyD k ∧ v = kV k := by
  cases d with
  | int i => exact ⟨.inl i, rfl, r.1⟩
  | str x => exact ⟨.inr x, rfl, r.1⟩
  | _ => cases h
theorem keyD_eqv (a b : Key) : (keyD a).eqv (keyD b) = decide (a = b) := by
  cases a <;> cases b <;> simp [keyD, D.eqv]
theorem find_key (k : Key) : ∀ kvs : List (Key × V), find (kvs.map fun p => keyD p.1) (keyD k) = kvs.findIdx? fun p => decide (p.1 = k)
  | [] => rfl
  | p :: r => by
    have ih := find_key k r
    unfold find at ih ⊢
    rw [List.map_cons, List.findIdx?_cons, List.findIdx?_cons, keyD_eqv, ih]
theorem findIdx_val (k : Key) : ∀ kvs : List (Key × V), (kvs.findIdx? fun p => decide (p.1 = k)).isSome = (valV kvs k).isSome
  | [] => rfl
  | p :: r => by
    rw [List.findIdx?_cons]
    by_cases e : p.1 = k
    · rw [valV_pos e]; simp [e]
    · rw [valV_neg e]; simp [e, findIdx_val k r]
theorem dict_at {T : Pgm} {H : Hp} {μ : List Addr} {S : Sto} {d : D} {v : V} {fp : List Addr} {ks vs : List D} (ok : StOk T H μ S) (r : Rep T H μ d v fp) (e : dictOf S d = some (ks, vs)) :
    ∃ a us f1, v = .ref a ∧ DictAt H a ks us ∧ Reps T H μ vs us f1 ∧ f1.Sublist fp := by
  unfold dictOf at e
  split at e
  · cases e
    obtain ⟨a, us, f1, rfl, q, r, rfl⟩ := r
    exact ⟨a, us, f1, rfl, q, r, List.sublist_append_left _ _⟩
  · rename_i n
    split at e
    · rename_i ks' vs' hS
      cases e
      obtain ⟨a, rfl, hm, rfl⟩ := r
      obtain ⟨us, q, r⟩ := ok.at_ n _ a hS hm
      exact ⟨a, us, [], rfl, q, r, List.Sublist.refl _⟩
    · cases e
  · cases e
theorem seq_at {T : Pgm} {H : Hp} {μ : List Addr} {S : Sto} {d : D} {v : V} {fp : List Addr} {ds : List D} (ok : StOk T H μ S) (r : Rep T H μ d v fp) (e : seqOf S d = some ds) :
    ∃ a vs f1, v = .ref a ∧ (SqL T.K H a vs ∨ SqT T.K H a vs) ∧ Reps T H μ ds vs f1 ∧ f1.Sublist fp := by
  unfold seqOf at e
  split at e
  · cases e
    obtain ⟨a, vs, rfl, q, r⟩ := r
    exact ⟨a, vs, fp, rfl, .inr q, r, List.Sublist.refl _⟩
  · unfold listOf at e
    split at e
    · cases e
      obtain ⟨a, vs, f1, rfl, q, r, rfl⟩ := r
      exact ⟨a, vs, f1, rfl, .inl (SqL.of q), r, List.sublist_append_left _ _⟩
    · cases e
      obtain ⟨a, vs, rfl, q, r, _⟩ := r
      exact ⟨a, vs, fp, rfl, .inl q.sq, r, List.Sublist.refl _⟩
    · rename_i n _
      split at e
      · rename_i ds' hS
        cases e
        obtain ⟨a, rfl, hm, rfl⟩ := r
        obtain ⟨vs, q, r⟩ := ok.at_ n _ a hS hm
        exact ⟨a, vs, [], rfl, .inl (SqL.of q), r, List.Sublist.refl _⟩
      · cases e
    · cases e
section
variable {X : Cx} {C : Nat → Addr}
theorem in_any (neg : Bool) (hu : X.A.units + 200 < cLine) {pins : List (Addr × Obj)} {s : Shared} {σ : Slots} {H : Hp} {x y : V} {v u : Value} {Q : VK} {d e : D} {S : Sto} {μ : List Addr} {f1 f2 : List Addr} {b : Bool}
    (I : Inv X pins σ H s) (rx : RelV x v) (ry : RelV y u) (i : In2 (tOf X C) H μ S d e x y f1 f2) (h : inE S d e = some b) (q : Q (.bl (if neg then !b else b)) H) :
    wpAny (model X.prog X.w) X.A (compareOp (if neg then .NotIn else .In) v u) (EP X pins σ Q) X.xe s := by
  unfold inE at h
  split at h
  · rename_i z
    split at h
    · rename_i w
      cases h
      obtain ⟨rfl, _⟩ := i.r1; obtain ⟨rfl, _⟩ := i.r2
      cases neg with
      | false => exact op_in_str pins s σ H _ _ v u Q I rx ry ⟨_, _, rfl, rfl, q⟩
      | true => exact L2.op_notIn_str pins s σ H _ _ v u Q I rx ry ⟨_, _, rfl, rfl, q⟩
    · cases h
  · split at h
    · rename_i ds hs
      unfold inL at h
      split at h
      · rename_i yy ys e1 e2
        split at h
        · rename_i hd
          cases h
          have tx := tree_res I i.ok 60 d x f1 v yy i.r1 rx e1
          obtain ⟨a, vs, g1, rfl, sq, rs, _⟩ := seq_at i.ok i.r2 hs
          cases ry
          have main : ∀ its : List Value, Vals vs its → (∀ w, w ∈ its.toArray → EqAt X.A.in1 s w v (ansOf s.heap yy w)) ∧ its.toArray.any (ansOf s.heap yy) = ys.any fun z => z.eqv yy := fun its r' => by
            have ts := trees_res I i.ok 60 ds vs g1 its ys rs r' e2
            refine ⟨fun w hw => ?_, ?_⟩
            · obtain ⟨j, hj, ej⟩ := List.mem_iff_getElem.mp (List.mem_toArray.mp hw)
              obtain ⟨xj, h1, h2⟩ := Trees.get ys its j w ts (by rw [List.getElem?_eq_getElem hj, ej])
              rw [ansOf_eq h2]
              refine eqAt_tree xj yy X.A.in1 s w v h2 tx ?_
              have h3 := depths_get ys j xj h1
              show X.A.units + 1 + min xj.depth yy.depth < cLine
              omega
            · rw [List.any_toArray]; exact ans_any ys its ts
          rcases sq with sq | sq
          · obtain ⟨its, r', il, _⟩ := lst_at I sq
            obtain ⟨m1, m2⟩ := main its r'
            cases neg with
            | false => exact in_listAt _ il m1 (by rw [m2]; exact ⟨.bl _, H, I, rfl, q⟩)
            | true => exact notIn_listAt _ il m1 (by rw [m2]; exact ⟨.bl _, H, I, rfl, q⟩)
          · obtain ⟨its, r', it, _⟩ := I.tuple sq
            obtain ⟨m1, m2⟩ := main its r'
            cases neg with
            | false => exact in_tupleAt _ it m1 (by rw [m2]; exact ⟨.bl _, H, I, rfl, q⟩)
            | true => exact notIn_tupleAt _ it m1 (by rw [m2]; exact ⟨.bl _, H, I, rfl, q⟩)
        · cases h
      · cases h
    · split at h
      · rename_i ks vs' hd
        split at h
        · rename_i hk
          cases h
          obtain ⟨k, rfl, rfl⟩ := keyV i.r1 hk
          obtain ⟨a, us, g1, rfl, ⟨kvs, ha, rfl, rfl, nd⟩, _, _⟩ := dict_at i.ok i.r2 hd
          cases ry
          have e1 : (find (kvs.map fun p => keyD p.1) (keyD k)).isSome = (valV kvs k).isSome := by rw [find_key, findIdx_val]
          rw [e1] at q
          cases neg with
          | false => exact d_in (by omega) I (DGet.k ha) rx fun s' I' => ⟨.bl _, H, I', rfl, q⟩
          | true => exact d_notIn (by omega) I (DGet.k ha) rx fun s' I' => ⟨.bl _, H, I', rfl, q⟩
        · cases h
      · cases h
theorem eqD_ok (I : Inv X pins σ H s) {d e : D} {x y : V} {v u : Value} {f1 f2 : List Addr} {b : Bool} {Q : Value → Shared → Prop} {E : Value → Shared → Prop} (rx : RelV x v) (ry : RelV y u) (i : In2 (tOf X C) H μ S d e x y f1 f2) (h : eqD S d e = some b) (hu : X.A.units + 200 < cLine)
    (fin : ∀ k : Bool, k = b → Q (.bool k) s) : wpAny (model X.prog X.w) X.A (compareOp .Eq v u) Q E s := by
  unfold eqD at h
  split at h
  · rename_i x1 x2 e1 e2
    split at h
    · rename_i hc
      obtain ⟨rfl, hd⟩ := hc
      cases h
      have t1 := dtree_res I i.ok 60 d x f1 v x1 i.r1 rx e1
      have t2 := dtree_res I i.ok 60 e y f2 u x1 i.r2 ry e2
      exact dtree_rc x1 X.A v u t1 t2 (by omega) _ _ (fin _ rfl)
    · cases h
  · cases h
theorem op_cmp (hu : X.A.units + 200 < cLine) : ∀ o : Cmp, OpR X (compareOp (cOf o)) (rCmp (tOf X C) o) := by
  intro o pins s σ H x y v u Q I rx ry ⟨d, e, S, μ, f1, f2, b, i, h, q⟩
  have fin : ∀ k : Bool, k = b → EP X pins σ Q (.bool k) s := fun k e => ⟨.bl b, H, I, by rw [e]; rfl, q⟩
  have eqs : ∀ k, eqE S d e = some k → ∃ x' y', Tree s.heap x' v ∧ Tree s.heap y' u ∧ k = x'.eqv y' ∧ X.A.units + min x'.depth y'.depth < cLine := fun k hk => by
    unfold eqE at hk
    split at hk
    · rename_i x' y' e1 e2
      split at hk
      · rename_i hd
        cases hk
        exact ⟨x', y', tree_res I i.ok 60 d x f1 v x' i.r1 rx e1, tree_res I i.ok 60 e y f2 u y' i.r2 ry e2, rfl, by omega⟩
      · cases hk
    · cases hk
  cases o with
  | eq =>
    have h1 : orD (eqE S d e) S d e = some b := h
    unfold orD at h1
    split at h1
    · rename_i k hk
      cases h1
      obtain ⟨x', y', t1, t2, rfl, hd⟩ := eqs _ hk
      exact rcAt_tree x' y' X.A s v u t1 t2 hd _ _ _ _ (fin _ rfl)
    · exact eqD_ok I rx ry i h1 hu fin
  | ne =>
    obtain ⟨k, hk, rfl⟩ := Option.map_eq_some_iff.mp (show (eqE S d e).map (!·) = some b from h)
    obtain ⟨x', y', t1, t2, rfl, hd⟩ := eqs k hk
    exact rcNeAt_tree x' y' X.A s v u t1 t2 hd _ _ _ _ (fin _ rfl)
  | lt =>
    have h' : ltE d e = some b := h
    unfold ltE at h'
    split at h'
    · cases h'
      obtain ⟨rfl, _⟩ := i.r1; obtain ⟨rfl, _⟩ := i.r2
      exact op_lt pins s σ H _ _ v u Q I rx ry ⟨_, _, rfl, rfl, q⟩
    · cases h'
      obtain ⟨rfl, _⟩ := i.r1; obtain ⟨rfl, _⟩ := i.r2
      exact op_lt_str pins s σ H _ _ v u Q I rx ry ⟨_, _, rfl, rfl, q⟩
    · cases h'
  | gt =>
    have h' : ltE e d = some b := h
    unfold ltE at h'
    split at h'
    · cases h'
      obtain ⟨rfl, _⟩ := i.r1; obtain ⟨rfl, _⟩ := i.r2
      exact op_gt pins s σ H _ _ v u Q I rx ry ⟨_, _, rfl, rfl, q⟩
    · cases h'
      obtain ⟨rfl, _⟩ := i.r1; obtain ⟨rfl, _⟩ := i.r2
      exact op_gt_str pins s σ H _ _ v u Q I rx ry ⟨_, _, rfl, rfl, q⟩
    · cases h'
  | le =>
    cases d with
    | int m =>
      cases e with
      | int n =>
        cases h
        obtain ⟨rfl, _⟩ := i.r1; obtain ⟨rfl, _⟩ := i.r2
        exact op_le pins s σ H _ _ v u Q I rx ry ⟨_, _, rfl, rfl, q⟩
      | _ => cases h
    | bl m =>
      cases e with
      | bl n =>
        cases h
        obtain ⟨rfl, _⟩ := i.r1; obtain ⟨rfl, _⟩ := i.r2
        cases (show v = Value.bool m from rx)
        cases (show u = Value.bool n from ry)
        exact le_bb (fin _ rfl)
      | _ => cases h
    | _ => cases e <;> cases h
  | ge =>
    cases d with
    | int m =>
      cases e with
      | int n =>
        cases h
        obtain ⟨rfl, _⟩ := i.r1; obtain ⟨rfl, _⟩ := i.r2
        exact op_ge pins s σ H _ _ v u Q I rx ry ⟨_, _, rfl, rfl, q⟩
      | _ => cases h
    | _ => cases e <;> cases h
  | in_ => exact in_any (C := C) false hu I rx ry i h q
  | notin =>
    obtain ⟨k, hk, rfl⟩ := Option.map_eq_some_iff.mp (show (inE S d e).map (!·) = some b from h)
    exact in_any (C := C) true hu I rx ry i hk q
end
end Ev
end
section
set_option Elab.async false
set_option linter.all false
set_option maxRecDepth 100000
namespace Ev
open PySem PySem.Spec PyProof.Rows L2 PySem.SeqAt
section
variable {T : Pgm} {H : Hp} {μ : List Addr} {S : Sto}
/-! ### into the store -/
mutual
theorem Rep.kinds : ∀ (d : D) (v : V) (fp : List Addr), Rep T H μ d v fp → Kinds H fp
  | .non, _, _, h => by rw [h.2]; exact fun _ h => nomatch h
  | .bl _, _, _, h => by rw [h.2]; exact fun _ h => nomatch h
  | .int _, _, _, h => by rw [h.2]; exact fun _ h => nomatch h
  | .str _, _, _, h => by rw [h.2]; exact fun _ h => nomatch h
  | .tup ds, _, fp, h => by obtain ⟨a, vs, _, _, r⟩ := h; exact Reps.kinds ds vs fp r
  | .lst ds, _, fp, h => by
    obtain ⟨a, vs, fp', _, q, r, rfl⟩ := h
    intro b m
    rcases List.mem_append.mp m with m | m
    · exact Reps.kinds ds vs fp' r b m
    · have : b = a := by simpa using m
      subst this; exact .inl ⟨_, q⟩
  | .fz _, _, _, h => by obtain ⟨_, _, _, _, _, z⟩ := h; rw [z]; exact fun _ h => nomatch h
  | .dct ks ds, _, fp, h => by
    obtain ⟨a, us, fp', _, ⟨kvs, q, _⟩, r, rfl⟩ := h
    intro b m
    rcases List.mem_append.mp m with m | m
    · exact Reps.kinds ds us fp' r b m
    · have : b = a := by simpa using m
      subst this; exact .inr (.inl ⟨_, q⟩)
  | .nd ks ds, _, fp, h => by
    obtain ⟨a, us, fp', _, ⟨q, _⟩, _, r, rfl⟩ := h
    intro b m
    rcases List.mem_append.mp m with m | m
    · exact Reps.kinds ds _ fp' r b m
    · have : b = a := by simpa using m
      subst this; exact .inr (.inr ⟨(_, _), q⟩)
  | .ref _, _, _, h => by obtain ⟨_, _, _, z⟩ := h; rw [z]; exact fun _ h => nomatch h
  | .exc _, _, _, h => by obtain ⟨_, _, _, _, z⟩ := h; rw [z]; exact fun _ h => nomatch h
theorem Reps.kinds : ∀ (ds : List D) (vs : List V) (fp : List Addr), Reps T H μ ds vs fp → Kinds H fp
  | [], _, _, h => by rw [h.2]; exact fun _ h => nomatch h
  | d :: ds, _, _, h => by
    obtain ⟨v, r, f1, f2, _, h1, h2, rfl⟩ := h
    intro b m
    rcases List.mem_append.mp m with m | m
    · exact Rep.kinds d v f1 h1 b m
    · exact Reps.kinds ds r f2 h2 b m
end
/-- an object is put behind the others -/
theorem StOk.push {d : D} {a : Addr} (h : StOk T H μ S) (n : a ∉ μ) (k : Kinds H [a]) (o : ObjAt T H (μ ++ [a]) d a) : StOk T H (μ ++ [a]) (S ++ [d]) := by
  refine ⟨by simp [h.len], ?_, fun i x b h1 h2 => ?_⟩
  · refine List.nodup_append.mpr ⟨h.nd, by simp, fun x hx y hy e => ?_⟩
    have : y = a := by simpa using hy
    subst this; subst e; exact n hx
  · by_cases hi : i < S.length
    · rw [List.getElem?_append_left hi] at h1
      rw [List.getElem?_append_left (by rw [← h.len]; exact hi)] at h2
      have q := h.at_ i x b h1 h2
      cases x with
      | lst ds => obtain ⟨vs, e, r⟩ := q; exact ⟨vs, e, Reps.widen k _ _ _ r⟩
      | dct ks ds => obtain ⟨us, e, r⟩ := q; exact ⟨us, e, Reps.widen k _ _ _ r⟩
      | nd ks ds => obtain ⟨us, e, rk, r⟩ := q; exact ⟨us, e, Reps.widen k _ _ _ rk, Reps.widen k _ _ _ r⟩
      | _ => exact q.elim
    · have hl := h.len
      have hi2 : i = S.length := by
        have := (List.getElem?_eq_some_iff.mp h1).1
        simp at this; omega
      subst hi2
      have e1 : x = d := by simpa using h1.symm
      have e2 : b = a := by
        rw [hl] at h2; simpa using h2.symm
      subst e1; subst e2; exact o
mutual
theorem settle_ok : ∀ (d : D) (v : V) (fp : List Addr) (μ : List Addr) (S : Sto), Rep T H μ d v fp → StOk T H μ S → (μ ++ fp).Nodup → Rep T H (μ ++ fp) (settle d S).1 v [] ∧ StOk T H (μ ++ fp) (settle d S).2
  | .non, _, _, μ, S, h, ok, _ => by obtain ⟨rfl, rfl⟩ := h; rw [List.append_nil]; exact ⟨⟨rfl, rfl⟩, ok⟩
  | .bl _, _, _, μ, S, h, ok, _ => by obtain ⟨rfl, rfl⟩ := h; rw [List.append_nil]; exact ⟨⟨rfl, rfl⟩, ok⟩
  | .int _, _, _, μ, S, h, ok, _ => by obtain ⟨rfl, rfl⟩ := h; rw [List.append_nil]; exact ⟨⟨rfl, rfl⟩, ok⟩
  | .str _, _, _, μ, S, h, ok, _ => by obtain ⟨rfl, rfl⟩ := h; rw [List.append_nil]; exact ⟨⟨rfl, rfl⟩, ok⟩
  | .fz _, _, _, μ, S, h, ok, _ => by
    obtain ⟨a, vs, e, q, r, rfl⟩ := h
    rw [List.append_nil]; exact ⟨⟨a, vs, e, q, r, rfl⟩, ok⟩
  | .ref _, _, _, μ, S, h, ok, _ => by
    obtain ⟨a, e, q, rfl⟩ := h
    rw [List.append_nil]; exact ⟨⟨a, e, q, rfl⟩, ok⟩
  | .exc _, _, _, μ, S, h, ok, _ => by
    obtain ⟨a, e, q, na, rfl⟩ := h
    rw [List.append_nil]; exact ⟨⟨a, e, q, na, rfl⟩, ok⟩
  | .tup ds, _, fp, μ, S, h, ok, nd => by
    obtain ⟨a, vs, e, q, r⟩ := h
    obtain ⟨h1, h2⟩ := settles_ok ds vs fp μ S r ok nd
    exact ⟨⟨a, vs, e, q, h1⟩, h2⟩
  | .lst ds, _, _, μ, S, h, ok, nd => by
    obtain ⟨a, vs, fp', e, q, r, rfl⟩ := h
    rw [← List.append_assoc] at nd ⊢
    obtain ⟨h1, h2⟩ := settles_ok ds vs fp' μ S r ok (nd_left nd)
    have k : Kinds H [a] := fun b m => by
      have : b = a := by simpa using m
      subst this; exact .inl ⟨_, q⟩
    refine ⟨⟨a, e, ?_, rfl⟩, h2.push (nd_out nd a (by simp)) k ⟨vs, q, Reps.widen k _ _ _ h1⟩⟩
    rw [h2.len]; simp
  | .dct ks ds, _, _, μ, S, h, ok, nd => by
    obtain ⟨a, us, fp', e, q, r, rfl⟩ := h
    rw [← List.append_assoc] at nd ⊢
    obtain ⟨h1, h2⟩ := settles_ok ds us fp' μ S r ok (nd_left nd)
    have k : Kinds H [a] := fun b m => by
      have : b = a := by simpa using m
      subst this; obtain ⟨kvs, q, _⟩ := q; exact .inr (.inl ⟨_, q⟩)
    refine ⟨⟨a, e, ?_, rfl⟩, h2.push (nd_out nd a (by simp)) k ⟨us, q, Reps.widen k _ _ _ h1⟩⟩
    rw [h2.len]; simp
  | .nd ks ds, _, _, μ, S, h, ok, nd => by
    obtain ⟨a, xs, fp', e, q, rk, r, rfl⟩ := h
    rw [← List.append_assoc] at nd ⊢
    obtain ⟨h1, h2⟩ := settles_ok ds _ fp' μ S r ok (nd_left nd)
    have k : Kinds H [a] := fun b m => by
      have : b = a := by simpa using m
      subst this; exact .inr (.inr ⟨(_, _), q.1⟩)
    refine ⟨⟨a, e, ?_, rfl⟩, h2.push (nd_out nd a (by simp)) k ⟨xs, q, Reps.widen k _ _ _ (Reps.widen (Reps.kinds _ _ _ r) _ _ _ rk), Reps.widen k _ _ _ h1⟩⟩
    rw [h2.len]; simp
theorem settles_ok : ∀ (ds : List D) (vs : List V) (fp : List Addr) (μ : List Addr) (S : Sto), Reps T H μ ds vs fp → StOk T H μ S → (μ ++ fp).Nodup → Reps T H (μ ++ fp) (settles ds S).1 vs [] ∧ StOk T H (μ ++ fp) (settles ds S).2
  | [], _, _, μ, S, h, ok, _ => by obtain ⟨rfl, rfl⟩ := h; rw [List.append_nil]; exact ⟨⟨rfl, rfl⟩, ok⟩
  | d :: ds, _, _, μ, S, h, ok, nd => by
    obtain ⟨v, r, f1, f2, rfl, h1, h2, rfl⟩ := h
    rw [← List.append_assoc] at nd ⊢
    obtain ⟨a1, a2⟩ := settle_ok d v f1 μ S h1 ok (nd_left nd)
    obtain ⟨b1, b2⟩ := settles_ok ds r f2 (μ ++ f1) _ (Reps.widen (Rep.kinds d v f1 h1) _ _ _ h2) a2 nd
    exact ⟨⟨v, r, [], [], rfl, Rep.widen (Reps.kinds ds r f2 h2) _ _ _ a1, b1, rfl⟩, b2⟩
end
/-- an object of the store is written -/
theorem StOk.put {n : Nat} {a : Addr} {d : D} {o : HO} (h : StOk T H μ S) (hm : μ[n]? = some a) (s : Stp H μ (upd H a o) μ) (k : Kinds (upd H a o) [a]) (q : ObjAt T (upd H a o) μ d a) : StOk T (upd H a o) μ (S.set n d) := by
  refine ⟨by simp [h.len], h.nd, fun i x b h1 h2 => ?_⟩
  by_cases hi : i = n
  · subst hi
    rw [hm] at h2; cases h2
    have e : x = d := by
      have hl : i < S.length := by rw [h.len]; exact (List.getElem?_eq_some_iff.mp hm).1
      rw [List.getElem?_set_self hl] at h1
      exact (Option.some.inj h1).symm
    subst e; exact q
  · rw [List.getElem?_set_ne (fun e => hi e.symm)] at h1
    have hne : b ≠ a := fun e => by
      subst e
      obtain ⟨l1, e1⟩ := List.getElem?_eq_some_iff.mp hm
      obtain ⟨l2, e2⟩ := List.getElem?_eq_some_iff.mp h2
      exact hi ((List.getElem_inj h.nd).mp (e2.trans e1.symm))
    have kd := h.kinds
    have q := h.at_ i x b h1 h2
    cases x with
    | lst ds => obtain ⟨vs, e, r⟩ := q; exact ⟨vs, by rw [upd_ne hne]; exact e, Reps.keep kd s _ _ _ r (by simp)⟩
    | dct ks ds => obtain ⟨us, e, r⟩ := q; exact ⟨us, DictAt.keep (upd_ne hne) e, Reps.keep kd s _ _ _ r (by simp)⟩
    | nd ks ds => obtain ⟨us, e, rk, r⟩ := q; exact ⟨us, ⟨by rw [upd_ne hne]; exact e.1, e.2⟩, Reps.keep kd s _ _ _ rk (by simp), Reps.keep kd s _ _ _ r (by simp)⟩
    | _ => exact q.elim
/-- writing an object of the store is a step -/
theorem Stp.put {a : Addr} {o : HO} (m : a ∈ μ) : Stp H μ (L2.upd H a o) μ := by
  refine ⟨⟨[], by simp, by simp⟩, fun b u h n => ?_, fun b u h => ?_⟩
  · have ne : b ≠ a := fun e => n (by rw [e]; exact m)
    rw [L2.upd_ne ne]; exact h
  · by_cases e : b = a
    · subst e; exact ⟨o, L2.upd_same⟩
    · exact ⟨u, by rw [L2.upd_ne e]; exact h⟩
/-- own objects go into the store: no step of the heap -/
theorem Stp.own {fp own : List Addr} {H0 : Hp} {μ0 : List Addr} (s : Stp H0 μ0 H μ) (n : ∀ a ∈ fp, H0 a = none) : Stp H0 μ0 H (μ ++ fp) := by
  obtain ⟨e, rfl, f⟩ := s.ext
  exact ⟨⟨e ++ fp, by simp, fun a m => (List.mem_append.mp m).elim (f a) (n a)⟩, s.fr, s.dom⟩
end
end Ev
end
section
set_option Elab.async false
set_option linter.all false
set_option maxRecDepth 100000
namespace Ev
open PySem PySem.Spec PyProof.Rows L2 PySem.SeqAt
theorem atI_eq {α : Type} (xs : List α) (i : Int) : Ev.atI xs i = L2.atI xs i := by
  unfold Ev.atI L2.atI ixN
  by_cases h : 0 ≤ i
  · rw [if_pos h, if_pos h]
    by_cases h2 : i < xs.length
    · rw [if_pos h2]; rfl
    · rw [if_neg h2, List.getElem?_eq_none (by omega)]; rfl
  · rw [if_neg h, if_neg h]
    by_cases h2 : -(xs.length : Int) ≤ i
    · rw [if_pos h2, if_pos h2]; rfl
    · rw [if_neg h2, if_neg h2]; rfl
section
variable {T : Pgm} {H : Hp} {μ : List Addr} {S : Sto}
theorem Reps.get : ∀ (ds : List D) (vs : List V) (fp : List Addr) (j : Nat) (d : D), Reps T H μ ds vs fp → ds[j]? = some d → ∃ v f, vs[j]? = some v ∧ Rep T H μ d v f ∧ f.Sublist fp
  | [], _, _, _, _, _, e => by simp at e
  | d :: ds, _, _, 0, x, h, e => by
    obtain ⟨v, r, f1, f2, rfl, h1, h2, rfl⟩ := h
    simp at e; subst e
    exact ⟨v, f1, rfl, h1, List.sublist_append_left _ _⟩
  | d :: ds, _, _, j + 1, x, h, e => by
    obtain ⟨v, r, f1, f2, rfl, h1, h2, rfl⟩ := h
    obtain ⟨w, f, q1, q2, q3⟩ := Reps.get ds r f2 j x h2 (by simpa using e)
    exact ⟨w, f, by simpa using q1, q2, q3.trans (List.sublist_append_right _ _)⟩
theorem Reps.atI {ds : List D} {vs : List V} {fp : List Addr} {i : Int} {d : D} (h : Reps T H μ ds vs fp) (e : Ev.atI ds i = some d) : ∃ v f, L2.atI vs i = some v ∧ Rep T H μ d v f ∧ f.Sublist fp := by
  have hl := Reps.len _ _ _ h
  rw [atI_eq] at e
  unfold L2.atI at e ⊢
  rw [hl]
  cases q : ixN ds.length i with
  | none => rw [q] at e; cases e
  | some j =>
    rw [q] at e
    exact Reps.get ds vs fp j d h e
theorem Reps.drop : ∀ (n : Nat) (ds : List D) (vs : List V) (fp : List Addr), Reps T H μ ds vs fp → ∃ f, Reps T H μ (ds.drop n) (vs.drop n) f ∧ f.Sublist fp
  | 0, ds, vs, fp, h => ⟨fp, h, List.Sublist.refl _⟩
  | n + 1, [], vs, fp, h => by obtain ⟨rfl, rfl⟩ := h; exact ⟨[], ⟨rfl, rfl⟩, List.Sublist.refl _⟩
  | n + 1, d :: ds, vs, fp, h => by
    obtain ⟨v, r, f1, f2, rfl, h1, h2, rfl⟩ := h
    obtain ⟨f, q1, q2⟩ := Reps.drop n ds r f2 h2
    exact ⟨f, q1, q2.trans (List.sublist_append_right _ _)⟩
theorem Reps.take : ∀ (n : Nat) (ds : List D) (vs : List V) (fp : List Addr), Reps T H μ ds vs fp → ∃ f, Reps T H μ (ds.take n) (vs.take n) f ∧ f.Sublist fp
  | 0, ds, vs, fp, h => ⟨[], ⟨rfl, rfl⟩, List.nil_sublist _⟩
  | n + 1, [], vs, fp, h => by obtain ⟨rfl, rfl⟩ := h; exact ⟨[], ⟨rfl, rfl⟩, List.Sublist.refl _⟩
  | n + 1, d :: ds, vs, fp, h => by
    obtain ⟨v, r, f1, f2, rfl, h1, h2, rfl⟩ := h
    obtain ⟨f, q1, q2⟩ := Reps.take n ds r f2 h2
    exact ⟨f1 ++ f, ⟨v, r.take n, f1, f, rfl, h1, q1, rfl⟩, List.Sublist.append (List.Sublist.refl _) q2⟩
theorem out_part {z : D} {v : V} {f own : List Addr} {Q : VK} (r : Rep T H μ z v f) (nd : (μ ++ own).Nodup) (s : f.Sublist own) (q : Out T H μ S z own Q) : Q v H := q v H f (fun _ _ e => e) r (nd_sub nd s) fun a m => .inl (s.mem m)
end
/-! ### subscripts -/
def rIdx (T : Pgm) : R2 := fun x y H Q => ∃ d e S μ f1 f2 z, In2 T H μ S d e x y f1 f2 ∧ idxE S d e = some z ∧ Out T H μ S z (f1 ++ f2) Q
theorem getK_val {T : Pgm} {H : Hp} {μ : List Addr} (k : Key) : ∀ (kvs : List (Key × V)) (vs : List D) (fp : List Addr) (z : D), Reps T H μ vs (kvs.map (·.2)) fp → getK (kvs.map fun p => keyD p.1) vs (keyD k) = some z →
    ∃ v f, valV kvs k = some v ∧ Rep T H μ z v f ∧ f.Sublist fp
  | [], vs, fp, z, h, e => by
    unfold getK find at e
    simp at e
  | p :: r, vs, fp, z, h, e => by
    cases vs with
    | nil => obtain ⟨h, _⟩ := h; cases h
    | cons d ds =>
      obtain ⟨v, w, f1, f2, e1, h1, h2, rfl⟩ := h
      rw [List.map_cons] at e1
      obtain ⟨rfl, rfl⟩ := List.cons.inj e1
      unfold getK find at e
      rw [List.map_cons, List.findIdx?_cons, keyD_eqv] at e
      by_cases hk : p.1 = k
      · rw [decide_eq_true hk] at e
        simp at e; subst e
        exact ⟨p.2, f1, valV_pos hk, h1, List.sublist_append_left _ _⟩
      · rw [decide_eq_false hk] at e
        rw [valV_neg hk]
        have e' : getK (r.map fun p => keyD p.1) ds (keyD k) = some z := by
          unfold getK find
          cases q : List.findIdx? (fun x => x.eqv (keyD k)) (List.map (fun p => keyD p.1) r) with
          | none => rw [q] at e; simp at e
          | some i => rw [q] at e; simpa using e
        obtain ⟨u, f, q1, q2, q3⟩ := getK_val k r ds f2 z h2 e'
        exact ⟨u, f, q1, q2, q3.trans (List.sublist_append_right _ _)⟩
section
variable {X : Cx} {C : Nat → Addr}
theorem list_at {T : Pgm} {H : Hp} {μ : List Addr} {S : Sto} {d : D} {v : V} {fp : List Addr} {ds : List D} (ok : StOk T H μ S) (r : Rep T H μ d v fp) (e : listOf S d = some ds) :
    ∃ a vs f1, v = .ref a ∧ SqL T.K H a vs ∧ Reps T H μ ds vs f1 ∧ f1.Sublist fp := by
  unfold listOf at e
  split at e
  · cases e
    obtain ⟨a, vs, f1, rfl, q, r, rfl⟩ := r
    exact ⟨a, vs, f1, rfl, SqL.of q, r, List.sublist_append_left _ _⟩
  · cases e
    obtain ⟨a, vs, rfl, q, r, _⟩ := r
    exact ⟨a, vs, fp, rfl, q.sq, r, List.Sublist.refl _⟩
  · rename_i n
    split at e
    · rename_i ds' hS
      cases e
      obtain ⟨a, rfl, hm, rfl⟩ := r
      obtain ⟨vs, q, r⟩ := ok.at_ n _ a hS hm
      exact ⟨a, vs, [], rfl, SqL.of q, r, List.Sublist.refl _⟩
    · cases e
  · cases e
theorem ix_dict (hu : X.A.units + 1 < cLine) : IxR X (fun x y H Q => ∃ a k v kvs, x = .ref a ∧ y = kV k ∧ H a = some (.dK kvs) ∧ valV kvs k = some v ∧ Q v H) := by
  intro value slice pins s σ H x y v u Q I rx ry h hs
  obtain ⟨a, k, z, kvs, rfl, rfl, hq, he, q⟩ := h
  cases rx
  have g : DGet H a (kV k) (some z) := by rw [← he]; exact DGet.k hq
  exact tail_any (dict_typeIs I g) PySem.F.slot_dict_getitem.lookup (d_getItem hu I g ry fun w' s3 I3 rw' => ⟨z, H, I3, rw', q⟩) hs
theorem ix_d (hu : X.A.units + 1 < cLine) : IxR X (rIdx (tOf X C)) := by
  intro value slice pins s σ H x y v u Q I rx ry ⟨d, e, S, μ, f1, f2, z, i, b, q⟩ hs
  unfold idxE at b
  split at b
  · split at b
    · obtain ⟨a, vs, rfl, sq, r⟩ := i.r1
      obtain ⟨rfl, rfl⟩ := i.r2
      obtain ⟨w, f, g1, g2, g3⟩ := Reps.atI r b
      exact ix_tup value slice pins s σ H _ _ v u Q I rx ry ⟨a, vs, _, w, rfl, rfl, sq, g1, out_part g2 (by simpa using i.nd) (by simpa using g3) q⟩ hs
    · cases b
  · split at b
    · split at b
      · rename_i hl
        obtain ⟨c, e1, rfl⟩ := Option.map_eq_some_iff.mp b
        obtain ⟨rfl, rfl⟩ := i.r1; obtain ⟨rfl, rfl⟩ := i.r2
        rw [atI_eq] at e1
        exact ix_str value slice pins s σ H _ _ v u Q I rx ry ⟨_, _, c, rfl, rfl, hl, e1, out_str i.ok q⟩ hs
      · cases b
    · cases b
  · split at b
    · rename_i ds hl
      split at b
      · obtain ⟨a, vs, g, rfl, sq, r, sb⟩ := list_at i.ok i.r1 hl
        obtain ⟨rfl, rfl⟩ := i.r2
        obtain ⟨w, f, g1, g2, g3⟩ := Reps.atI r b
        exact ix_list value slice pins s σ H _ _ v u Q I rx ry ⟨a, vs, _, w, rfl, rfl, sq, g1, out_part g2 (by simpa using i.nd) (by simpa using g3.trans sb) q⟩ hs
      · cases b
    · split at b
      · rename_i ks vs' hd
        split at b
        · rename_i hk
          obtain ⟨k, rfl, rfl⟩ := keyV i.r2 hk
          obtain ⟨a, us, g, rfl, ⟨kvs, ha, rfl, rfl, nd⟩, rs, sb⟩ := dict_at i.ok i.r1 hd
          obtain ⟨w, f, g1, g2, g3⟩ := getK_val k kvs vs' g z rs b
          exact ix_dict hu value slice pins s σ H _ _ v u Q I rx ry ⟨a, k, w, kvs, rfl, rfl, ha, g1, out_part g2 i.nd (sub_l (g3.trans sb)) q⟩ hs
        · cases b
      · cases b
/-! ### slices -/
def partOf : D → Option (Option Int)
  | .non => some none
  | .int i => some (some i)
  | _ => none
theorem sIx_eq {n d : Nat} {lo : D} {i : Nat} (h : Ev.sIx n d lo = some i) : ∃ o, partOf lo = some o ∧ i = HT.sIx n d o := by
  unfold Ev.sIx at h
  split at h
  · cases h; exact ⟨none, rfl, rfl⟩
  · cases h; exact ⟨some _, rfl, rfl⟩
  · cases h
def rSlD (T : Pgm) : V → Option Int → Option Int → Hp → VK → Prop := fun x l h H Q => ∃ d lo hi S μ fp z, Rep T H μ d x fp ∧ StOk T H μ S ∧ (μ ++ fp).Nodup ∧ partOf lo = some l ∧ partOf hi = some h ∧ slE S d lo hi = some z ∧ Out T H μ S z fp Q
theorem Reps.cut {T : Pgm} {H : Hp} {μ : List Addr} {ds : List D} {vs : List V} {fp : List Addr} (lo hi : Option Int) (h : Reps T H μ ds vs fp) : ∃ f, Reps T H μ (Ev.cut ds (HT.sIx ds.length 0 lo) (HT.sIx ds.length ds.length hi)) (cutV vs lo hi) f ∧ f.Sublist fp := by
  unfold Ev.cut cutV
  rw [Reps.len _ _ _ h]
  obtain ⟨f, h1, s1⟩ := Reps.drop (HT.sIx ds.length 0 lo) _ _ _ h
  obtain ⟨f', h2, s2⟩ := Reps.take (HT.sIx ds.length ds.length hi - HT.sIx ds.length 0 lo) _ _ _ h1
  exact ⟨f', h2, s2.trans s1⟩
theorem sl_d : SlR X (rSlD (tOf X C)) := by
  intro pins s σ H x v vl vu lo hi sl Q I rx hs pl pu ⟨d, l, h, S, μ, fp, z, r, ok, nd, p1, p2, b, q⟩
  unfold slE at b
  split at b
  · split at b
    · rename_i e1 e2
      cases b
      obtain ⟨o1, g1, rfl⟩ := sIx_eq e1
      obtain ⟨o2, g2, rfl⟩ := sIx_eq e2
      rw [p1] at g1; cases g1
      rw [p2] at g2; cases g2
      obtain ⟨a, vs, rfl, sq, rs⟩ := r
      have hl := Reps.len _ _ _ rs
      obtain ⟨f, h1, s1⟩ := Reps.cut lo hi rs
      refine sl_tupA pins s σ H _ v vl vu lo hi sl Q I rx hs pl pu ⟨a, vs, rfl, sq, fun ⟨w1, w2⟩ => ?_, fun _ => ?_⟩
      · rw [hl] at w1 w2
        rw [w1, w2] at q
        refine q _ H fp (fun _ _ e => e) ⟨a, vs, rfl, sq, ?_⟩ nd fun a m => .inl m
        unfold Ev.cut
        rw [List.drop_zero, Nat.sub_zero, List.take_length]; exact rs
      · exact out_tup h1 (nd_sub nd s1) (fun a m => s1.mem m) q
    · cases b
  · split at b
    · rename_i e1 e2
      split at b
      · rename_i hl
        cases b
        obtain ⟨o1, g1, rfl⟩ := sIx_eq e1
        obtain ⟨o2, g2, rfl⟩ := sIx_eq e2
        rw [p1] at g1; cases g1
        rw [p2] at g2; cases g2
        obtain ⟨rfl, rfl⟩ := r
        exact sl_str pins s σ H _ v vl vu lo hi sl Q I rx hs pl pu ⟨_, rfl, hl, out_str ok q⟩
      · cases b
    · cases b
  · split at b
    · rename_i ds hd
      split at b
      · rename_i e1 e2
        cases b
        obtain ⟨o1, g1, rfl⟩ := sIx_eq e1
        obtain ⟨o2, g2, rfl⟩ := sIx_eq e2
        rw [p1] at g1; cases g1
        rw [p2] at g2; cases g2
        obtain ⟨a, vs, g, rfl, sq, rs, sb⟩ := list_at ok r hd
        obtain ⟨f, h1, s1⟩ := Reps.cut lo hi rs
        exact sl_list pins s σ H _ v vl vu lo hi sl Q I rx hs pl pu ⟨a, vs, rfl, sq, out_lst ok h1 (nd_sub nd (s1.trans sb)) (fun a m => (s1.trans sb).mem m) q⟩
      · cases b
    · cases b
end
/-! ### isinstance -/
def VT.name : VT → String
  | .non => "NoneType"
  | .bl => "bool"
  | .int => "int"
  | .str => "str"
  | .tup => "tuple"
  | .lst => "list"
  | .dct => "dict"
def clsV (C : Nat → Addr) : Ty → V
  | .int => .ty "int"
  | .str => .ty "str"
  | .tuple => .ty "tuple"
  | .list => .ty "list"
  | .dict => .ty "dict"
  | .bool => .ty "bool"
  | .valueError => .ty "ValueError"
  | .cls c => .ref (C c)
def clsU (C : Nat → Addr) : Ty → Value
  | .int => .type "int"
  | .str => .type "str"
  | .tuple => .type "tuple"
  | .list => .type "list"
  | .dict => .type "dict"
  | .bool => .type "bool"
  | .valueError => .type "ValueError"
  | .cls c => .ref (C c)
theorem clsV_ok (C : Nat → Addr) (t : Ty) : ClsV (clsV C t) (clsU C t) := by
  cases t with
  | cls c => exact .own _
  | _ => exact .ty _
/-- what is known of the exception classes -/
structure ExcK (K : PySem.W.Frag) (C : Nat → Addr) (isa : Nat → Ty → Bool) : Prop where
  exc : ∀ c, C c ≠ 0 → ExcC K (C c)
  kit : ∀ c c', C c ≠ 0 → PySem.W.kitOne K (.ref (C c)) (.ref (C c')) = some (isa c (.cls c'))
  val : ∀ c, C c ≠ 0 → PySem.W.kitOne K (.ref (C c)) (.type "ValueError") = some (isa c .valueError)
  made : ∀ c, C c ≠ 0 → PySem.W.excIn K (C c) [.type "ValueError", .type "Exception", .type "BaseException", .type "object"] "ValueError.__new__" = true ∧ PySem.W.keepIn K (.ref (C c)) = true ∧ PySem.W.subIn K (.ref (C c)) (.type "BaseException") = some true ∧ PySem.W.typeIn K (.ref (C c)) = some (.type "type")
  exm : ∀ c c', C c ≠ 0 → PySem.W.exmOne K (.ref (C c)) (.ref (C c')) = some (isa c (.cls c'))
theorem kit_vt (K : PySem.W.Frag) (C : Nat → Addr) (v : VT) (t : Ty) (b : Bool) (h : isVT t v = some b) : PySem.W.kitOne K (.type v.name) (clsU C t) = some b := by
  cases t with
  | cls c => cases h
  | valueError => cases h
  | _ => cases v <;> cases h <;> exact kit_ty (by decide +kernel)
section
variable {X : Cx} {C : Nat → Addr} {isa : Nat → Ty → Bool} {pins : List (Addr × Obj)} {σ : Slots} {H : Hp} {s : Shared} {μ : List Addr} {S : Sto}
theorem tyx_of (ok : StOk (tOf X C) H μ S) {d : D} {x : V} {fp : List Addr} {v : VT} (r : Rep (tOf X C) H μ d x fp) (e : vtOf S d = some v) : TyX X.K H x (.type v.name) := by
  have sqL : ∀ {a : Addr} {vs : List V}, SqL X.K H a vs → TyX X.K H (.ref a) (.type "list") := fun {a vs} q => by
    rcases q with (q | ⟨o, q⟩) | ⟨o, its, n, q, c, _⟩
    · exact .base (.lst q)
    · exact .base (.frz q)
    · exact .kList q c
  cases d with
  | non => cases e; obtain ⟨rfl, _⟩ := r; exact .base .non
  | bl b => cases e; obtain ⟨rfl, _⟩ := r; exact .base (.bl b)
  | int b => cases e; obtain ⟨rfl, _⟩ := r; exact .base (.int b)
  | str b => cases e; obtain ⟨rfl, _⟩ := r; exact .base (.str b)
  | tup ds =>
    cases e
    obtain ⟨a, vs, rfl, q, _⟩ := r
    rcases q with (q | ⟨o, q⟩) | ⟨o, its, n, q, c, _⟩
    · exact .base (.tup q)
    · exact .fTuple q
    · exact .kTuple q c
  | lst ds => cases e; obtain ⟨a, vs, f, rfl, q, _⟩ := r; exact sqL (SqL.of q)
  | fz ds => cases e; obtain ⟨a, vs, rfl, q, _⟩ := r; exact sqL q.sq
  | dct ks ds => cases e; obtain ⟨a, vs, f, rfl, ⟨kvs, q, _⟩, _⟩ := r; exact .base (.dK q)
  | exc c => cases e
  | nd _ _ => cases e
  | ref n =>
    obtain ⟨a, rfl, hm, _⟩ := r
    cases hS : S[n]? with
    | none =>
      have e' : (match S[n]? with | some (.lst _) => some VT.lst | some (.dct _ _) => some VT.dct | _ => none) = some v := e
      rw [hS] at e'; cases e'
    | some o =>
      have e' : (match S[n]? with | some (.lst _) => some VT.lst | some (.dct _ _) => some VT.dct | _ => none) = some v := e
      rw [hS] at e'
      have q := ok.at_ n o a hS hm
      cases o with
      | lst ds => cases e'; obtain ⟨vs, q, _⟩ := q; exact sqL (SqL.of q)
      | dct ks ds => cases e'; obtain ⟨us, ⟨kvs, q, _⟩, _⟩ := q; exact .base (.dK q)
      | nd _ _ => cases e'
      | _ => exact q.elim
theorem kit_d (ec : ExcK X.K C isa) (I : Inv X pins σ H s) (ok : StOk (tOf X C) H μ S) {d : D} {x : V} {fp : List Addr} {u : Value} (r : Rep (tOf X C) H μ d x fp) (rx : RelV x u) {t0 : Ty} {b0 : Bool} (h0 : isTy isa S t0 d = some b0) :
    ∃ (t : Value) (P : Heap → Prop), PySem.W.KitX X.K u t P ∧ P s.heap ∧ u ≠ .builtin "__main__.__loader__#opaque" ∧ ∀ ty b, isTy isa S ty d = some b → PySem.W.kitOne X.K t (clsU C ty) = some b := by
  by_cases hx : ∃ c, d = .exc c
  · obtain ⟨c, rfl⟩ := hx
    obtain ⟨a, rfl, q, na, _⟩ := r
    cases rx
    obtain ⟨⟨oe, vs, hg, hc, hd, hv⟩, _, _⟩ := I.hok a _ q
    have E := ec.exc c na.2
    have J : PySem.W.InstAt s.heap a oe (C c) none := by
      obtain ⟨oc, od, oda, osl⟩ := oe
      dsimp only at hc hd hv
      subst hc hd hv
      exact ⟨hg, rfl, rfl, trivial⟩
    refine ⟨.ref (C c), _, PySem.W.handS_kitx_exc E.hg E.hk E.hs E.hd E.ha E.hn E.ht E.hm, J, (fun z => nomatch z), fun ty b h => ?_⟩
    cases ty with
    | cls c' => cases h; exact ec.kit c c' na.2
    | valueError => cases h; exact ec.val c na.2
    | _ => cases h
  · have hv : ∀ ty b, isTy isa S ty d = some b → ∃ v, vtOf S d = some v ∧ isVT ty v = some b := fun ty b h => by
      cases d with
      | exc c => exact absurd ⟨c, rfl⟩ hx
      | _ =>
        unfold isTy at h
        split at h
        · rename_i hd; cases hd
        · split at h
          · exact ⟨_, by assumption, h⟩
          · cases h
    obtain ⟨v, hv0, _⟩ := hv t0 b0 h0
    obtain ⟨P, Z, p, hb⟩ := kit_of I rx (tyx_of ok r hv0)
    refine ⟨_, P, Z, p, hb, fun ty b h => ?_⟩
    obtain ⟨v', h1, h2⟩ := hv ty b h
    rw [hv0] at h1; cases h1
    exact kit_vt X.K C v ty b h2
theorem kit_ds (C : Nat → Addr) {K : PySem.W.Frag} {t : Value} {d : D} (hk : ∀ ty b, isTy isa S ty d = some b → PySem.W.kitOne K t (clsU C ty) = some b) : ∀ (ts : List Ty) (b : Bool), isTys isa S d ts = some b → PySem.W.kitAny K t (ts.map (clsU C)) = some b
  | [], b, h => h
  | ty :: ts, b, h => by
    unfold isTys at h
    rw [List.map_cons]
    split at h
    · rename_i e
      cases h
      exact kitAny_cons (hk ty true e) (fun z => nomatch z) fun _ => rfl
    · rename_i e
      exact kitAny_cons (hk ty false e) (fun _ => kit_ds C hk ts b h) fun z => nomatch z
    · cases h
end
/-- isinstance(x, T), isinstance(x, (T, ..)) -/
def rIsD (T : Pgm) (isa : Nat → Ty → Bool) (ts : List Ty) : List V → Hp → VK → Prop := fun xs H Q => ∃ d S μ fp x b, Rep T H μ d x fp ∧ StOk T H μ S ∧ isTys isa S d ts = some b ∧ Q (.bl b) H ∧
  ((∃ t, ts = [t] ∧ xs = [x, clsV T.C t]) ∨ ∃ tp, xs = [x, .ref tp] ∧ H tp = some (.tup (ts.map (clsV T.C))))
section
variable {X : Cx} {C : Nat → Addr} {isa : Nat → Ty → Bool}
theorem call_isD (ec : ExcK X.K C isa) (ts : List Ty) (hne : ts ≠ []) : CallR X (.builtin "isinstance") (rIsD (tOf X C) isa ts) := by
  intro pins s σ H xs us Q I r ⟨d, S, μ, fp, x, b, rp, ok, e, q, alt⟩
  cases ts with
  | nil => exact absurd rfl hne
  | cons t0 ts0 =>
  have h0 : ∃ b0, isTy isa S t0 d = some b0 := by
    unfold isTys at e
    split at e
    · exact ⟨_, by assumption⟩
    · exact ⟨_, by assumption⟩
    · cases e
  obtain ⟨b0, h0⟩ := h0
  rcases alt with ⟨t, z, rfl⟩ | ⟨tp, rfl, hT⟩
  · cases z
    obtain ⟨u1, u2, rfl, r1, r2⟩ := vals2 r
    obtain ⟨ty, P, Z, p, hb, hk⟩ := kit_d ec I ok rp r1 h0
    have e2 := (clsV_ok C t0).eq r2
    subst e2
    have hb0 : b0 = b := by
      unfold isTys at e
      rw [h0] at e
      cases b0 with
      | true => cases e; rfl
      | false => cases e; rfl
    subst hb0
    exact PySem.W.kia_one Z I.kIn p (hk t0 b0 h0) hb fun tk => ⟨.bl b0, H, I.tok tk, rfl, q⟩
  · obtain ⟨u1, u2, rfl, r1, r2⟩ := vals2 r
    cases (show u2 = Value.ref tp from r2)
    obtain ⟨ty, P, Z, p, hb, hk⟩ := kit_d ec I ok rp r1 h0
    obtain ⟨_, its, rv, o, h1, h2, n, h3⟩ := (show ObjOk X.prog X.w H s.heap tp (.tup _) from I.hok tp _ hT)
    have pr : ∀ l : List Ty, Paired ClsV (l.map (clsV C)) (l.map (clsU C)) := fun l => by
      induction l with
      | nil => exact .nil
      | cons a l ih => exact .cons (clsV_ok C a) ih
    have e3 := ClsV.all (pr (t0 :: ts0)) rv
    subst e3
    obtain ⟨oc, od, dt, sl⟩ := o
    simp only at h2 h3
    subst h2 h3
    exact PySem.W.kia_tup Z I.kIn p h1 (kit_ds C hk (t0 :: ts0) b e) hb fun tk => ⟨.bl b, H, I.tok tk, rfl, q⟩
end
end Ev
end
section
set_option Elab.async false
set_option linter.all false
set_option maxRecDepth 100000
namespace Ev
open PySem PySem.Spec PyProof.Rows L2 PySem.SeqAt
/-! ### order -/
theorem lt_trans_nat : ∀ (a b c : List Nat), a < b → b < c → a < c := fun a b c h1 h2 => List.lt_trans h1 h2
theorem strLe_trans (x y z : Str) (h1 : (!strLt y x) = true) (h2 : (!strLt z y) = true) : (!strLt z x) = true := by
  unfold strLt at *
  simp only [Bool.not_eq_true', decide_eq_false_iff_not, List.not_lt] at *
  exact List.le_trans h1 h2
theorem strLe_total (x y : Str) : (!strLt y x || !strLt x y) = true := by
  unfold strLt
  simp only [Bool.or_eq_true, Bool.not_eq_true', decide_eq_false_iff_not, List.not_lt]
  exact List.le_total _ _
theorem strLe_anti (x y : Str) (h1 : (!strLt y x) = true) (h2 : (!strLt x y) = true) : x = y := by
  unfold strLt at *
  simp only [Bool.not_eq_true', decide_eq_false_iff_not, List.not_lt] at *
  have := List.le_antisymm h1 h2
  cases x; cases y
  simp only [Str.mk.injEq]
  exact Array.toList_inj.mp this
theorem perm_sorted {α : Type} {le : α → α → Bool} (anti : ∀ a b, le a b = true → le b a = true → a = b) : ∀ (xs ys : List α), xs.Perm ys → xs.Pairwise (fun a b => le a b = true) → ys.Pairwise (fun a b => le a b = true) → xs = ys
  | [], ys, p, _, _ => (List.Perm.nil_eq p)
  | x :: xs, [], p, _, _ => absurd p.symm (by simp)
  | x :: xs, y :: ys, p, h1, h2 => by
    obtain ⟨a1, a2⟩ := List.pairwise_cons.mp h1
    obtain ⟨b1, b2⟩ := List.pairwise_cons.mp h2
    have e : x = y := by
      by_cases h : x = y
      · exact h
      · have m1 : x ∈ ys := (List.mem_cons.mp (p.mem_iff.mp List.mem_cons_self)).resolve_left h
        have m2 : y ∈ xs := (List.mem_cons.mp (p.mem_iff.mpr List.mem_cons_self)).resolve_left (fun e => h e.symm)
        exact anti x y (a1 y m2) (b1 x m1)
    subst e
    rw [perm_sorted anti xs ys (p.cons_inv) a2 b2]
theorem rising_pair : ∀ (ys : List Str) (p : Str), risingS p ys = true → (p :: ys).Pairwise (fun a b => (!strLt b a) = true)
  | [], p, _ => by simp
  | y :: r, p, h => by
    obtain ⟨h1, h2⟩ := Bool.and_eq_true_iff.mp (show (!ltCps y.cps.toList p.cps.toList && risingS y r) = true from h)
    have ih := rising_pair r y h2
    have e : (!strLt y p) = true := by
      unfold strLt
      rw [← ltCps_eq]; exact h1
    refine List.pairwise_cons.mpr ⟨fun z hz => ?_, ih⟩
    rcases List.mem_cons.mp hz with rfl | hz
    · exact e
    · exact strLe_trans p y z e ((List.pairwise_cons.mp ih).1 z hz)
theorem sorted_is {xs ys : List Str} (p : ys.Perm xs) (s : sortedS ys = true) : ys = sortedStrs xs := by
  refine perm_sorted (le := fun a b => !strLt b a) (fun a b => strLe_anti a b) ys _ (p.trans (List.mergeSort_perm xs _).symm) ?_ ?_
  · cases ys with
    | nil => exact List.Pairwise.nil
    | cons y r => exact rising_pair r y s
  · exact List.pairwise_mergeSort (fun a b c => strLe_trans a b c) (fun a b => strLe_total a b) xs
theorem max_is : ∀ (ns : List Int) (x m : Int), m ∈ x :: ns → (∀ y, y ∈ x :: ns → y ≤ m) → m = maxOf (x :: ns) := by
  intro ns
  induction ns with
  | nil => intro x m h1 h2; simpa [maxOf] using h1
  | cons y r ih =>
    intro x m h1 h2
    show m = List.foldl max (max x y) r
    have := ih (max x y) m ?_ ?_
    · exact this
    · rcases List.mem_cons.mp h1 with e | h1
      · have := h2 y (by simp)
        rw [show max x y = m by omega]; simp
      · rcases List.mem_cons.mp h1 with e | h1
        · have := h2 x (by simp)
          rw [show max x y = m by omega]; simp
        · exact List.mem_cons_of_mem _ h1
    · intro z hz
      rcases List.mem_cons.mp hz with e | hz
      · have a := h2 x (by simp)
        have b := h2 y (by simp)
        omega
      · exact h2 z (by simp [hz])
section
variable {T : Pgm} {H : Hp} {μ : List Addr}
theorem Reps.ints : ∀ (ds : List D) (vs : List V) (fp : List Addr) (ns : List Int), Reps T H μ ds vs fp → intsOf ds = some ns → vs = ns.map V.int
  | [], vs, _, ns, h, e => by obtain ⟨rfl, _⟩ := h; cases e; rfl
  | d :: ds, _, _, ns, h, e => by
    obtain ⟨v, r, f1, f2, rfl, h1, h2, rfl⟩ := h
    cases d with
    | int i =>
      obtain ⟨ms, e1, rfl⟩ := Option.map_eq_some_iff.mp (show (intsOf ds).map (i :: ·) = some ns from e)
      obtain ⟨rfl, _⟩ := h1
      rw [Reps.ints ds r f2 ms h2 e1]; rfl
    | _ => cases e
theorem Reps.strs : ∀ (ds : List D) (vs : List V) (fp : List Addr) (ns : List Str), Reps T H μ ds vs fp → strsOf ds = some ns → vs = ns.map V.str
  | [], vs, _, ns, h, e => by obtain ⟨rfl, _⟩ := h; cases e; rfl
  | d :: ds, _, _, ns, h, e => by
    obtain ⟨v, r, f1, f2, rfl, h1, h2, rfl⟩ := h
    cases d with
    | str i =>
      obtain ⟨ms, e1, rfl⟩ := Option.map_eq_some_iff.mp (show (strsOf ds).map (i :: ·) = some ns from e)
      obtain ⟨rfl, _⟩ := h1
      rw [Reps.strs ds r f2 ms h2 e1]; rfl
    | _ => cases e
theorem reps_strs (T : Pgm) (H : Hp) (μ : List Addr) : ∀ xs : List Str, Reps T H μ (xs.map .str) (xs.map V.str) []
  | [] => ⟨rfl, rfl⟩
  | x :: r => ⟨_, _, [], [], rfl, ⟨rfl, rfl⟩, reps_strs T H μ r, rfl⟩
theorem keys_strs : ∀ (kvs : List (Key × V)) (xs : List Str), strsOf (kvs.map fun p => keyD p.1) = some xs → kvs.map (·.1) = xs.map Sum.inr
  | [], xs, e => by cases e; rfl
  | (.inl i, v) :: r, xs, e => by cases e
  | (.inr x, v) :: r, xs, e => by
    obtain ⟨ms, e1, rfl⟩ := Option.map_eq_some_iff.mp (show (strsOf (r.map fun p => keyD p.1)).map (x :: ·) = some xs from e)
    rw [List.map_cons, List.map_cons, keys_strs r ms e1]
end
/-! ### built-ins called by name -/
def bId : Blt → Value
  | .len => .builtin "len"
  | .abs => .builtin "abs"
  | .min2 => .builtin "min"
  | .max2 => .builtin "max"
  | .maxL => .builtin "max"
  | .minL => .builtin "min"
  | .sum => .builtin "sum"
  | .sorted => .builtin "sorted"
  | .tuple => .type "tuple"
  | .list => .type "list"
  | .int => .type "int"
  | .str => .type "str"
def rBlt (T : Pgm) (b : Blt) : List V → Hp → VK → Prop := fun xs H Q => ∃ ds S μ fp z, Reps T H μ ds xs fp ∧ StOk T H μ S ∧ (μ ++ fp).Nodup ∧ bltE S b ds = some z ∧ Out T H μ S z fp Q
section
variable {X : Cx} {C : Nat → Addr}
theorem Reps.one {T : Pgm} {H : Hp} {μ : List Addr} {d : D} {vs : List V} {fp : List Addr} (h : Reps T H μ [d] vs fp) : ∃ v, vs = [v] ∧ Rep T H μ d v fp := by
  obtain ⟨v, r, f1, f2, rfl, h1, ⟨rfl, rfl⟩, rfl⟩ := h
  exact ⟨v, rfl, by simpa using h1⟩
theorem Reps.two {T : Pgm} {H : Hp} {μ : List Addr} {d e : D} {vs : List V} {fp : List Addr} (h : Reps T H μ [d, e] vs fp) : ∃ u v f1 f2, vs = [u, v] ∧ Rep T H μ d u f1 ∧ Rep T H μ e v f2 ∧ fp = f1 ++ f2 := by
  obtain ⟨v, r, f1, f2, rfl, h1, h2, rfl⟩ := h
  obtain ⟨w, rfl, h3⟩ := Reps.one h2
  exact ⟨v, w, f1, f2, rfl, h1, h3, rfl⟩
theorem call_blt (hc : X.calm = true) : ∀ b : Blt, CallR X (bId b) (rBlt (tOf X C) b) := by
  intro b pins s σ H xs us Q I rv ⟨ds, S, μ, fp, z, r, ok, nd, e, q⟩
  unfold bltE at e
  split at e
  · obtain ⟨v, rfl, r1⟩ := Reps.one r
    split at e
    · split at e
      · rename_i hl
        cases e
        obtain ⟨rfl, rfl⟩ := r1
        exact call_len_str pins s σ H _ us Q I rv ⟨_, rfl, hl, out_int ok q⟩
      · cases e
    · split at e
      · rename_i ds' hs
        cases e
        obtain ⟨a, vs, g, rfl, sq, rs, _⟩ := seq_at ok r1 hs
        have hl := Reps.len _ _ _ rs
        refine call_len_seq pins s σ H _ us Q I rv ⟨a, vs, rfl, sq, ?_⟩
        rw [hl]; exact out_int ok q
      · split at e
        · rename_i ks vs' hd
          cases e
          obtain ⟨a, us', g, rfl, ⟨kvs, ha, rfl, rfl, _⟩, _, _⟩ := dict_at ok r1 hd
          refine call_lenD pins s σ H _ us Q I rv ⟨a, kvs, rfl, ha, ?_⟩
          rw [List.length_map] at q
          exact out_int ok q
        · cases e
  · cases e
    obtain ⟨v, rfl, rfl, rfl⟩ := Reps.one r
    exact call_abs pins s σ H _ us Q I rv ⟨_, rfl, out_int ok q⟩
  · cases e
    obtain ⟨u, v, f1, f2, rfl, ⟨rfl, rfl⟩, ⟨rfl, rfl⟩, rfl⟩ := Reps.two r
    exact call_min2 hc pins s σ H _ us Q I rv ⟨_, _, rfl, out_int ok q⟩
  · cases e
    obtain ⟨u, v, f1, f2, rfl, ⟨rfl, rfl⟩, ⟨rfl, rfl⟩, rfl⟩ := Reps.two r
    exact call_max2 hc pins s σ H _ us Q I rv ⟨_, _, rfl, out_int ok q⟩
  · split at e
    · rename_i x' r' e1
      cases e
      obtain ⟨v, rfl, r1⟩ := Reps.one r
      obtain ⟨ds', e2, e3⟩ := Option.bind_eq_some_iff.mp e1
      obtain ⟨a, vs, g, rfl, sq, rs, _⟩ := list_at ok r1 e2
      have ei := Reps.ints _ _ _ _ rs e3
      subst ei
      refine cr_max hc pins s σ H _ us Q I rv ⟨a, _, rfl, sq, by simp, fun m h1 h2 => ?_⟩
      rw [max_is r' x' m h1 h2]; exact out_int ok q
    · cases e
  · split at e
    · rename_i ns e1
      cases e
      obtain ⟨v, rfl, r1⟩ := Reps.one r
      obtain ⟨ds', e2, e3⟩ := Option.bind_eq_some_iff.mp e1
      obtain ⟨a, vs, g, rfl, sq, rs, _⟩ := list_at ok r1 e2
      have ei := Reps.ints _ _ _ _ rs e3
      subst ei
      exact cr_sum hc pins s σ H _ us Q I rv ⟨a, _, rfl, sq, out_int ok q⟩
    · cases e
  · obtain ⟨v, rfl, r1⟩ := Reps.one r
    split at e
    · rename_i ds' hl
      split at e
      · rename_i xs' hx
        split at e
        · rename_i h64
          cases e
          obtain ⟨a, vs, g, rfl, sq, rs, _⟩ := list_at ok r1 hl
          have ei := Reps.strs _ _ _ _ rs hx
          subst ei
          refine cr_sortedS pins s σ H _ us Q I rv ⟨a, xs', rfl, sq, h64, fun ys p pm so np => ?_⟩
          rw [sorted_is pm so]
          exact out_lst ok (reps_strs _ _ _ _) (by simpa using ok.nd) (by simp) q p np
        · cases e
      · cases e
    · split at e
      · rename_i ks vs' hd
        split at e
        · rename_i xs' hx
          split at e
          · rename_i h64
            cases e
            obtain ⟨a, us', g, rfl, ⟨kvs, ha, rfl, rfl, _⟩, _, _⟩ := dict_at ok r1 hd
            refine call_sortedD hc pins s σ H _ us Q I rv ⟨a, kvs, xs', rfl, .inl ha, keys_strs kvs xs' hx, h64, fun ys p pm so np => ?_⟩
            rw [sorted_is pm so]
            exact out_lst ok (reps_strs _ _ _ _) (by simpa using ok.nd) (by simp) q p np
          · cases e
        · cases e
      · cases e
  · obtain ⟨v, rfl, r1⟩ := Reps.one r
    obtain ⟨ds', hs, rfl⟩ := Option.map_eq_some_iff.mp e
    unfold seqOf at hs
    split at hs
    · cases hs
      obtain ⟨a, vs, rfl, sq, rs⟩ := r1
      exact call_tuple_of pins s σ H _ us Q I rv ⟨a, vs, rfl, .inr ⟨sq, q _ H fp (fun _ _ e => e) ⟨a, vs, rfl, sq, rs⟩ nd fun a m => .inl m⟩⟩
    · obtain ⟨a, vs, g, rfl, sq, rs, sb⟩ := list_at ok r1 hs
      exact call_tuple_of pins s σ H _ us Q I rv ⟨a, vs, rfl, .inl ⟨sq, out_tup rs (nd_sub nd sb) (fun a m => sb.mem m) q⟩⟩
  · obtain ⟨v, rfl, r1⟩ := Reps.one r
    obtain ⟨ds', hs, rfl⟩ := Option.map_eq_some_iff.mp e
    obtain ⟨a, vs, g, rfl, sq, rs, sb⟩ := seq_at ok r1 hs
    exact call_list_of pins s σ H _ us Q I rv ⟨a, vs, rfl, sq, out_lst ok rs (nd_sub nd sb) (fun a m => sb.mem m) q⟩
  · cases e
    obtain ⟨v, rfl, rfl, rfl⟩ := Reps.one r
    exact call_int1 pins s σ H _ us Q I rv (.inl ⟨_, rfl, out_int ok q⟩)
  · cases e
    obtain ⟨v, rfl, rfl, rfl⟩ := Reps.one r
    exact call_int1 pins s σ H _ us Q I rv (.inr ⟨_, rfl, out_int ok q⟩)
  · split at e
    · rename_i n hn
      split at e
      · rename_i hl
        cases e
        obtain ⟨v, rfl, rfl, rfl⟩ := Reps.one r
        exact call_int_str pins s σ H _ us Q I rv ⟨_, _, rfl, hn, hl, out_int ok q⟩
      · cases e
    · cases e
  · split at e
    · rename_i hl
      cases e
      obtain ⟨v, rfl, rfl, rfl⟩ := Reps.one r
      exact call_str_int pins s σ H _ us Q I rv ⟨_, rfl, hl, out_str ok q⟩
    · cases e
  · cases e
    obtain ⟨v, rfl, rfl, rfl⟩ := Reps.one r
    exact SkE.call_str_str pins s σ H _ us Q I rv ⟨_, rfl, out_str ok q⟩
  · cases e
end
end Ev
end
section
set_option Elab.async false
set_option linter.all false
set_option maxRecDepth 100000
namespace Ev
open PySem PySem.Spec PyProof.Rows L2 PySem.SeqAt
abbrev XP := NestedKey × Addr × V
abbrev YP := NestedKey × Addr × Value
def FP (p : XP) (q : YP) : Prop := p.1 = q.1 ∧ p.2.1 = q.2.1 ∧ RelV p.2.2 q.2.2
section
variable {T : Pgm} {H : Hp} {μ : List Addr} {S : Sto}
theorem find_cons {k key : D} {ks : List D} : find (k :: ks) key = if k.eqv key = true then some 0 else (find ks key).map (· + 1) := by
  unfold find
  rw [List.findIdx?_cons]
theorem getK_cons {k key v : D} {ks vs : List D} : getK (k :: ks) (v :: vs) key = if k.eqv key = true then some v else getK ks vs key := by
  unfold getK
  rw [find_cons]
  by_cases h : k.eqv key = true
  · rw [if_pos h, if_pos h]; rfl
  · rw [if_neg h, if_neg h]
    cases find ks key <;> rfl
theorem getN {key : D} (hp : key.pure = true) : ∀ (ks vs : List D) (xs : List XP) (ys : List YP) (fp : List Addr), xs.map (·.1) = ks.map D.nk → (∀ k ∈ ks, k.pure = true) → Paired FP xs ys → Reps T H μ vs (xs.map (·.2.2)) fp →
    (∀ z, getK ks vs key = some z → ∃ v u f, valueAt (pairsH ys) key.nk = some u ∧ RelV v u ∧ Rep T H μ z v f ∧ f.Sublist fp) ∧ (getK ks vs key = none → valueAt (pairsH ys) key.nk = none)
  | [], vs, xs, ys, fp, e, _, pr, r => by
    cases xs with
    | cons _ _ => simp at e
    | nil =>
      cases pr
      exact ⟨fun z hz => by (unfold getK find at hz; simp at hz), fun _ => rfl⟩
  | k :: ks, vs, xs, ys, fp, e, pk, pr, r => by
    cases xs with
    | nil => simp at e
    | cons x xs =>
      cases pr with
      | @cons _ y _ ys f1 pr =>
        cases vs with
        | nil => obtain ⟨h, _⟩ := r; simp at h
        | cons d vs =>
          obtain ⟨v, w, g1, g2, e1, r1, r2, rfl⟩ := r
          rw [List.map_cons] at e1
          obtain ⟨rfl, rfl⟩ := List.cons.inj e1
          rw [List.map_cons, List.map_cons] at e
          obtain ⟨e1, e2⟩ := List.cons.inj e
          have kp := pk k (by simp)
          have hd : k.eqv key = decide (y.1 = key.nk) := by rw [nk_dec kp hp, ← e1, f1.1]
          rw [getK_cons]
          by_cases h : y.1 = key.nk
          · rw [if_pos (by rw [hd]; exact decide_eq_true h)]
            refine ⟨fun z hz => ?_, fun hz => nomatch hz⟩
            cases hz
            refine ⟨x.2.2, y.2.2, g1, ?_, f1.2.2, r1, List.sublist_append_left _ _⟩
            simp [valueAt, pairsH, h]
          · rw [if_neg (by rw [hd]; simpa using h)]
            obtain ⟨i1, i2⟩ := getN hp ks vs xs ys g2 e2 (fun k m => pk k (by simp [m])) pr r2
            have ev : valueAt (pairsH (y :: ys)) key.nk = valueAt (pairsH ys) key.nk := by simp [valueAt, pairsH, h]
            rw [ev]
            refine ⟨fun z hz => ?_, i2⟩
            obtain ⟨v, u, f, h1, h2, h3, h4⟩ := i1 z hz
            exact ⟨v, u, f, h1, h2, h3, h4.trans (List.sublist_append_right _ _)⟩
open Classical in
/-- the entries behind d[k] = v -/
noncomputable def putX (xs : List XP) (k : NestedKey) (b : Addr) (v : V) : List XP := if (xs.any fun x => decide (x.1 = k)) = true then xs.map (fun x => if x.1 = k then (x.1, x.2.1, v) else x) else xs ++ [(k, b, v)]
theorem pr_any {k : NestedKey} : ∀ {xs : List XP} {ys : List YP}, Paired FP xs ys → (xs.any fun x => decide (x.1 = k)) = (atKey ys k).isSome
  | _, _, .nil => rfl
  | _, _, .cons (a := x) (b := y) h t => by
    rw [List.any_cons, pr_any t, h.1]
    by_cases e : y.1 = k
    · simp [atKey, e]
    · simp [atKey, e]
theorem pr_put {k : NestedKey} {v : V} {u : Value} (r : RelV v u) : ∀ {xs : List XP} {ys : List YP}, Paired FP xs ys → Paired FP (xs.map fun x => if x.1 = k then (x.1, x.2.1, v) else x) (ys.map (putAt k u))
  | _, _, .nil => .nil
  | _, _, .cons (a := x) (b := y) h t => by
    rw [List.map_cons, List.map_cons]
    refine .cons ?_ (pr_put r t)
    unfold putAt
    by_cases e : y.1 = k
    · rw [if_pos e, if_pos (h.1.trans e)]; exact ⟨h.1, h.2.1, r⟩
    · rw [if_neg e, if_neg fun z => e (h.1.symm.trans z)]; exact h
theorem pr_snoc {α β : Type} {F : α → β → Prop} {a : α} {b : β} : ∀ {l₁ : List α} {l₂ : List β}, Paired F l₁ l₂ → F a b → Paired F (l₁ ++ [a]) (l₂ ++ [b])
  | _, _, .nil, h => .cons h .nil
  | _, _, .cons h₁ t, h => .cons h₁ (pr_snoc t h)
theorem putX_pr {k : NestedKey} {b : Addr} {v : V} {u : Value} {xs : List XP} {ys : List YP} (r : RelV v u) (pr : Paired FP xs ys) : Paired FP (putX xs k b v) (storedH ys k b u) := by
  unfold putX storedH
  rw [pr_any pr]
  by_cases h : (atKey ys k).isSome = true
  · rw [if_pos h, if_pos h]; exact pr_put r pr
  · rw [if_neg h, if_neg h]; exact pr_snoc pr ⟨rfl, rfl, r⟩
theorem Reps.set' : ∀ (ds : List D) (vs : List V) (k : Nat) (d : D) (v : V), Reps T H μ ds vs [] → Rep T H μ d v [] → Reps T H μ (ds.set k d) (vs.set k v) []
  | [], _, _, _, _, h, _ => by obtain ⟨rfl, _⟩ := h; exact ⟨rfl, rfl⟩
  | x :: ds, _, k, d, v, h, r => by
    obtain ⟨w, us, f1, f2, rfl, h1, h2, e⟩ := h
    obtain ⟨rfl, rfl⟩ := List.append_eq_nil_iff.mp e.symm
    cases k with
    | zero => exact ⟨v, us, [], [], rfl, r, h2, rfl⟩
    | succ k => exact ⟨w, us.set k v, [], [], rfl, h1, Reps.set' ds us k d v h2 r, rfl⟩
theorem putX_some {key : D} {v : V} (hp : key.pure = true) : ∀ (ks : List D) (xs : List XP) (i : Nat), xs.map (·.1) = ks.map D.nk → (∀ k ∈ ks, k.pure = true) → (xs.map (·.1)).Nodup → find ks key = some i →
    (xs.any fun x => decide (x.1 = key.nk)) = true ∧ (xs.map fun x => if x.1 = key.nk then (x.1, x.2.1, v) else x).map (·.2.2) = (xs.map (·.2.2)).set i v
  | [], xs, i, _, _, _, e => by unfold find at e; simp at e
  | k :: ks, [], i, e, _, _, _ => by simp at e
  | k :: ks, x :: xs, i, e, pk, nd, hf => by
    rw [List.map_cons, List.map_cons] at e
    obtain ⟨e1, e2⟩ := List.cons.inj e
    rw [List.map_cons, List.nodup_cons] at nd
    have hd : k.eqv key = decide (x.1 = key.nk) := by rw [nk_dec (pk k (by simp)) hp, e1]
    rw [find_cons, hd] at hf
    by_cases h : x.1 = key.nk
    · rw [if_pos (decide_eq_true h)] at hf
      cases hf
      have id : (xs.map fun y => if y.1 = key.nk then (y.1, y.2.1, v) else y) = xs := by
        conv => rhs; rw [← List.map_id xs]
        refine List.map_congr_left fun y m => ?_
        rw [if_neg fun q => nd.1 (by rw [h, ← q]; exact List.mem_map_of_mem (f := fun y : XP => y.1) m)]; rfl
      rw [List.map_cons, if_pos h, id]
      exact ⟨by simp [h], by simp⟩
    · rw [if_neg (by simpa using h)] at hf
      obtain ⟨j, h1, rfl⟩ := Option.map_eq_some_iff.mp hf
      obtain ⟨a, b⟩ := putX_some (v := v) hp ks xs j e2 (fun k m => pk k (by simp [m])) nd.2 h1
      rw [List.map_cons, if_neg h]
      refine ⟨by rw [List.any_cons, a, Bool.or_true], ?_⟩
      rw [List.map_cons, b]; rfl
theorem putX_none {key : D} (hp : key.pure = true) : ∀ (ks : List D) (xs : List XP), xs.map (·.1) = ks.map D.nk → (∀ k ∈ ks, k.pure = true) → find ks key = none → (xs.any fun x => decide (x.1 = key.nk)) = false
  | [], [], _, _, _ => rfl
  | [], _ :: _, e, _, _ => by simp at e
  | k :: ks, [], e, _, _ => by simp at e
  | k :: ks, x :: xs, e, pk, hf => by
    rw [List.map_cons, List.map_cons] at e
    obtain ⟨e1, e2⟩ := List.cons.inj e
    have hd : k.eqv key = decide (x.1 = key.nk) := by rw [nk_dec (pk k (by simp)) hp, e1]
    rw [find_cons, hd] at hf
    by_cases h : x.1 = key.nk
    · rw [if_pos (decide_eq_true h)] at hf; cases hf
    · rw [if_neg (by simpa using h)] at hf
      rw [List.any_cons, putX_none hp ks xs e2 (fun k m => pk k (by simp [m])) (by simpa using hf)]
      simp [h]
theorem put_nd {key z : D} {v : V} {b : Addr} {ks vs : List D} {xs : List XP} (hk : tkeyOk key = true) (e : xs.map (·.1) = ks.map D.nk) (pk : ∀ k ∈ ks, tkeyOk k = true) (nd : (xs.map (·.1)).Nodup)
    (rk : Reps T H μ ks (xs.map fun x => .ref x.2.1) []) (r : Reps T H μ vs (xs.map (·.2.2)) []) (rb : Rep T H μ key (.ref b) []) (rz : Rep T H μ z v []) :
    (putX xs key.nk b v).map (·.1) = (putK ks vs key z).1.map D.nk ∧ (∀ k ∈ (putK ks vs key z).1, tkeyOk k = true) ∧ Reps T H μ (putK ks vs key z).1 ((putX xs key.nk b v).map fun x => .ref x.2.1) [] ∧ Reps T H μ (putK ks vs key z).2 ((putX xs key.nk b v).map (·.2.2)) [] := by
  have hp := (tkey hk).1
  have pp : ∀ k ∈ ks, k.pure = true := fun k m => (tkey (pk k m)).1
  cases hf : find ks key with
  | none =>
    have ea := putX_none hp ks xs e pp hf
    have e1 : putX xs key.nk b v = xs ++ [(key.nk, b, v)] := by unfold putX; rw [if_neg (by rw [ea]; exact Bool.false_ne_true)]
    have e2 : putK ks vs key z = (ks ++ [key], vs ++ [z]) := by unfold putK; rw [hf]
    rw [e1, e2]
    refine ⟨by simp [e], fun k m => ?_, ?_, ?_⟩
    · rcases List.mem_append.mp m with m | m
      · exact pk k m
      · rw [show k = key by simpa using m]; exact hk
    · have := Reps.append _ _ _ _ _ _ rk (show Reps T H μ [key] [.ref b] [] from ⟨_, [], [], [], rfl, rb, ⟨rfl, rfl⟩, rfl⟩)
      simpa using this
    · have := Reps.append _ _ _ _ _ _ r (show Reps T H μ [z] [v] [] from ⟨_, [], [], [], rfl, rz, ⟨rfl, rfl⟩, rfl⟩)
      simpa using this
  | some i =>
    obtain ⟨ea, eb⟩ := putX_some (v := v) hp ks xs i e pp nd hf
    have e1 : putX xs key.nk b v = xs.map fun x => if x.1 = key.nk then (x.1, x.2.1, v) else x := by unfold putX; rw [if_pos ea]
    have e2 : putK ks vs key z = (ks, vs.set i z) := by unfold putK; rw [hf]
    have m1 : (xs.map fun x => if x.1 = key.nk then (x.1, x.2.1, v) else x).map (·.1) = xs.map (·.1) := by
      rw [List.map_map]; refine List.map_congr_left fun x _ => ?_
      show (if x.1 = key.nk then (x.1, x.2.1, v) else x).1 = x.1
      split <;> rfl
    have m2 : (xs.map fun x => if x.1 = key.nk then (x.1, x.2.1, v) else x).map (fun x => V.ref x.2.1) = xs.map (fun x => V.ref x.2.1) := by
      rw [List.map_map]; refine List.map_congr_left fun x _ => ?_
      show V.ref (if x.1 = key.nk then (x.1, x.2.1, v) else x).2.1 = V.ref x.2.1
      split <;> rfl
    rw [e1, e2]
    exact ⟨by rw [m1]; exact e, pk, by rw [m2]; exact rk, by rw [eb]; exact Reps.set' _ _ _ _ _ r rz⟩
theorem putX_len {k : NestedKey} {b : Addr} {v : V} {xs : List XP} : (putX xs k b v).length ≤ xs.length + 1 := by
  unfold putX
  split <;> simp
end
section
variable {X : Cx} {C : Nat → Addr} {pins : List (Addr × Obj)} {σ : Slots} {H : Hp} {s : Shared} {μ : List Addr} {S : Sto}
/-- what a dict with tuple keys is in the heap -/
def NdIn (X : Cx) (s : Shared) (a : Addr) (ks : List D) (xs : List XP) : Prop :=
  (a == sysModules) = false ∧ xs.length ≤ sizeLine ∧ xs.map (·.1) = ks.map D.nk ∧ (∀ k ∈ ks, tkeyOk k = true) ∧ ∃ ys : List YP, Paired FP xs ys ∧ s.heap.DictOfH (nestedKind X.prog X.w) a ys
theorem NdAt.in_ (I : Inv X pins σ H s) {a : Addr} {ks : List D} {xs : List XP} (q : NdAt X.w H a ks xs) (rk : Reps (tOf X C) H μ ks (xs.map fun x => .ref x.2.1) []) : NdIn X s a ks xs := by
  obtain ⟨h1, h2, ys, h3, h4, h5⟩ := nd_heap I q rk
  exact ⟨h1, h2, q.2.1, q.2.2, ys, h3, h4⟩
theorem d0_in (I : Inv X pins σ H s) {a : Addr} {us : List V} (q : DictAt H a [] us) : NdIn X s a [] [] ∧ us = [] := by
  obtain ⟨kvs, h1, e1, rfl, _⟩ := q
  have : kvs = [] := by simpa using e1.symm
  subst this
  obtain ⟨_, hs, vs, rel, o, es, ep, g1, g2, g3, g4, g5, g6⟩ := dk_of I.hok h1
  cases rel
  refine ⟨⟨hs, by simp, rfl, by simp, [], .nil, o, es, ep, g1, g2, g3, ?_, by simp, by simp⟩, rfl⟩
  have := g5.length
  have hl : es.toList.length = 0 := by simpa using this
  simpa using List.length_eq_zero_iff.mp hl
theorem nd_at (I : Inv X pins σ H s) (ok : StOk (tOf X C) H μ S) {d : D} {v : V} {fp : List Addr} {ks vs : List D} (r : Rep (tOf X C) H μ d v fp) (e : ndOf S d = some (ks, vs)) :
    ∃ a xs g, v = .ref a ∧ NdIn X s a ks xs ∧ Reps (tOf X C) H μ vs (xs.map (·.2.2)) g ∧ g.Sublist fp := by
  unfold ndOf at e
  split at e
  · cases e
    obtain ⟨a, xs, g, rfl, q, rk, rs, rfl⟩ := r
    exact ⟨a, xs, g, rfl, q.in_ I rk, rs, List.sublist_append_left _ _⟩
  · cases e
    obtain ⟨a, us, g, rfl, q, rs, rfl⟩ := r
    obtain ⟨h1, rfl⟩ := d0_in I q
    exact ⟨a, [], g, rfl, h1, rs, List.sublist_append_left _ _⟩
  · rename_i n
    obtain ⟨a, rfl, hm, rfl⟩ := r
    split at e
    · rename_i ks' vs' hS
      cases e
      obtain ⟨xs, q, rk, rs⟩ := ok.at_ n _ a hS hm
      exact ⟨a, xs, [], rfl, q.in_ I rk, rs, List.Sublist.refl _⟩
    · rename_i hS
      cases e
      obtain ⟨us, q, rs⟩ := ok.at_ n _ a hS hm
      obtain ⟨h1, rfl⟩ := d0_in I q
      exact ⟨a, [], [], rfl, h1, rs, List.Sublist.refl _⟩
    · cases e
  · cases e
mutual
theorem pure_settled' : ∀ d : D, d.pure = true → d.settled = true
  | .non, _ => rfl
  | .bl _, _ => rfl
  | .int _, _ => rfl
  | .str _, _ => rfl
  | .tup ds, h => pures_settled' ds h
  | .fz _, h => nomatch h
  | .ref _, h => nomatch h
  | .exc _, h => nomatch h
  | .lst _, h => nomatch h
  | .dct _ _, h => nomatch h
  | .nd _ _, h => nomatch h
theorem pures_settled' : ∀ ds : List D, pures ds = true → settleds ds = true
  | [], _ => rfl
  | d :: ds, h => by
    obtain ⟨s1, s2⟩ := Bool.and_eq_true_iff.mp (show (d.pure && pures ds) = true from h)
    show (d.settled && settleds ds) = true
    rw [pure_settled' d s1, pures_settled' ds s2]; rfl
end
theorem tkey_at (I : Inv X pins σ H s) {k : D} {v : V} {fp : List Addr} {u : Value} (r : Rep (tOf X C) H μ k v fp) (rv : RelV v u) (hk : tkeyOk k = true) : ∃ b, v = .ref b ∧ u = .ref b ∧ fp = [] ∧ (nestedKind X.prog X.w).is s.heap k.nk b := by
  obtain ⟨p1, p2, ds, rfl⟩ := tkey hk
  have t := tree_pure I _ v fp u r rv p1
  have hfp : fp = [] := Rep.settled _ v fp r (pure_settled' _ p1)
  obtain ⟨b, vs, rfl, _⟩ := r
  cases (show u = Value.ref b from rv)
  exact ⟨b, rfl, rfl, hfp, nk_is _ _ t p1, by rw [nk_depth _ p1]; exact p2⟩
theorem nd_get {A : Around} {E : Value → Shared → Prop} {Q : Value → Shared → Prop} (hu : A.units + 20 < cLine) (I : Inv X pins σ H s) {a b : Addr} {ks vs : List D} {xs : List XP} {g : List Addr} {k : D} {x : V} {r : Value} (n : NdIn X s a ks xs) (rs : Reps (tOf X C) H μ vs (xs.map (·.2.2)) g)
    (hk : tkeyOk k = true) (kb : (nestedKind X.prog X.w).is s.heap k.nk b) (rd : RelV x r)
    (h1 : ∀ z v f, getK ks vs k = some z → Rep (tOf X C) H μ z v f → f.Sublist g → ∀ u s', RelV v u → Inv X pins σ H s' → Q u s') (h2 : getK ks vs k = none → ∀ s', Inv X pins σ H s' → Q r s') :
    wpAny (model X.prog X.w) A (call (.builtin "dict.get") [.ref a, .ref b, r]) Q E s := by
  obtain ⟨hs, hl, e, pk, ys, pr, dd⟩ := n
  obtain ⟨g1, g2⟩ := getN (tkey hk).1 ks vs xs ys g e (fun k m => (tkey (pk k m)).1) pr rs
  refine getOr_keyed (knd := nestedKind X.prog X.w) (show A.units + 1 + 8 < cLine by omega) kb hs ⟨ys, dd, rfl⟩ ?_
  cases hz : getK ks vs k with
  | none => rw [g2 hz]; exact h2 hz _ (I.tok _)
  | some z =>
    obtain ⟨v, u, f, q1, q2, q3, q4⟩ := g1 z hz
    rw [q1]
    exact h1 z v f hz q3 q4 u _ q2 (I.tok _)
theorem nd_set {A : Around} {E : Value → Shared → Prop} {Q : Unit → Shared → Prop} (hu : A.units + 20 < cLine) (I : Inv X pins σ H s) {a b : Addr} {ks : List D} {xs : List XP} {k : D} {v : V} {u : Value} (n : NdIn X s a ks xs)
    (hl : ks.length < 16777216) (mu : Mut (H a)) (hk : tkeyOk k = true) (kb : (nestedKind X.prog X.w).is s.heap k.nk b) (rv : RelV v u)
    (h : (xs.map (·.1)).Nodup → ∀ s', Inv X pins σ (upd H a (ndHO X.w a (putX xs k.nk b v))) s' → Q () s') : wpAny (model X.prog X.w) A (setItem (.ref a) (.ref b) u) Q E s := by
  obtain ⟨hs, hz, e, pk, ys, pr, dd⟩ := n
  have hxl : xs.length = ks.length := by simpa using congrArg List.length e
  have nd : (xs.map (·.1)).Nodup := by
    rw [pr_map_eq pr (g := fun y => y.1) fun _ _ z => z.1]
    obtain ⟨_, _, _, _, _, _, _, _, n⟩ := dd; exact n
  have hy : ys.length ≤ sizeLine := by
    have := congrArg List.length (pr_map_eq pr (f := fun x => x.1) (g := fun y => y.1) fun _ _ z => z.1)
    simp at this; omega
  refine wpAny_setItem_heap (knd := nestedKind X.prog X.w) (hsz := hy) (show A.units + 1 + 8 < cLine by omega) kb dd fun h' dd' sb => h nd _ ?_
  obtain ⟨q, es, ep, hq, h2, h3, h4, _, h5⟩ := dd'
  have hlen : (putX xs k.nk b v).length ≤ sizeLine := by
    have := putX_len (k := k.nk) (b := b) (v := v) (xs := xs)
    have hsl : (16777216 : Nat) ≤ sizeLine := by decide
    omega
  refine d_write I mu sb ⟨q, hq⟩ ⟨⟨hs, hlen, _, putX_pr rv pr, q, es, ep, hq, h2, h3, h4, h5⟩, ⟨q, hq⟩, fun h1 h2 p st => ?_⟩
  obtain ⟨p1, p2, zs, p3, o, es, ep, q1, q2⟩ := p
  exact ⟨p1, p2, zs, p3, o, es, ep, st _ q1, q2⟩
end
end Ev
end
section
set_option Elab.async false
set_option linter.all false
set_option maxRecDepth 100000
namespace Ev
open PySem PySem.Spec PyProof.Rows L2 PySem.SeqAt
/-- from (H, μ) on, own things (at ow) may go into the store -/
structure StpO (ow : List Addr) (H : Hp) (μ : List Addr) (H' : Hp) (μ' : List Addr) : Prop where
  ext : ∃ e, μ' = μ ++ e ∧ ∀ a ∈ e, a ∈ ow ∨ H a = none
  fr : ∀ b o, H b = some o → b ∉ μ → b ∉ ow → H' b = some o
  dom : ∀ b o, H b = some o → ∃ o', H' b = some o'
theorem StpO.of {H0 H H' : Hp} {μ0 μ μ' ow : List Addr} (s : Stp H0 μ0 H μ) (n : ∀ a ∈ ow, H0 a = none) (d : ∀ a ∈ ow, a ∉ μ) (t : StpO ow H μ H' μ') : Stp H0 μ0 H' μ' := by
  refine ⟨?_, fun b o h1 h2 => ?_, fun b o h => ?_⟩
  · obtain ⟨e, rfl, f⟩ := s.ext
    obtain ⟨e', rfl, f'⟩ := t.ext
    refine ⟨e ++ e', by simp, fun a m => ?_⟩
    rcases List.mem_append.mp m with m | m
    · exact f a m
    · rcases f' a m with m | m
      · exact n a m
      · exact s.free m
  · refine t.fr b o (s.fr b o h1 h2) (fun m => ?_) fun m => ?_
    · rw [s.new m h2] at h1; cases h1
    · rw [n b m] at h1; cases h1
  · obtain ⟨o', e⟩ := s.dom b o h
    exact t.dom b o' e
abbrev OutM (T : Pgm) (H : Hp) (μ ow : List Addr) (S' : Sto) (z : D) (Q : VK) : Prop :=
  ∀ v H' μ' fp, StpO ow H μ H' μ' → StOk T H' μ' S' → Rep T H' μ' z v fp → (μ' ++ fp).Nodup → (∀ a ∈ fp, a ∈ ow ∨ H a = none) → Q v H'
def rMth (T : Pgm) (m : Mth) : V → List V → Hp → VK → Prop := fun x xs H Q => ∃ d ds S μ f1 f2 z S', Rep T H μ d x f1 ∧ Reps T H μ ds xs f2 ∧ StOk T H μ S ∧ (μ ++ (f1 ++ f2)).Nodup ∧ mthE m d ds S = some (z, S') ∧ OutM T H μ (f1 ++ f2) S' z Q
def mTy : Mth → String
  | .append => "list"
  | .pop => "list"
  | .extend => "list"
  | .join => "str"
  | .upper => "str"
  | .get => "dict"
  | .split => "str"
  | .startswith => "str"
  | .partition => "str"
def mId : Mth → String
  | .append => "list.append"
  | .pop => "list.pop"
  | .extend => "list.extend"
  | .join => "str.join"
  | .upper => "str.upper"
  | .get => "dict.get"
  | .split => "str.split"
  | .startswith => "str.startswith"
  | .partition => "str.partition"
def mNm : Mth → Str
  | .append => "append"
  | .pop => "pop"
  | .extend => "extend"
  | .join => "join"
  | .upper => "upper"
  | .get => "get"
  | .split => "split"
  | .startswith => "startswith"
  | .partition => "partition"
section
variable {T : Pgm} {H : Hp} {μ : List Addr} {S : Sto}
theorem StpO.sm {H' : Hp} {ow : List Addr} (s : Same H H') : StpO ow H μ H' μ := ⟨⟨[], by simp, by simp⟩, fun b o h _ _ => s b o h, fun b o h => ⟨o, s b o h⟩⟩
theorem StpO.refl {ow : List Addr} : StpO ow H μ H μ := ⟨⟨[], by simp, by simp⟩, fun _ _ h _ _ => h, fun _ o h => ⟨o, h⟩⟩
/-- an object of the store is written, own things come in -/
theorem StpO.put {ow e : List Addr} {a : Addr} {o : HO} (m : a ∈ μ) (he : ∀ b ∈ e, b ∈ ow) : StpO ow H μ (upd H a o) (μ ++ e) := by
  have s : Stp H μ (upd H a o) μ := Stp.put m
  exact ⟨⟨e, rfl, fun b hb => .inl (he b hb)⟩, fun b o h n _ => s.fr b o h n, s.dom⟩
/-- the list at object n becomes ys -/
theorem put_list {n : Nat} {a : Addr} {ds' : List D} {ys : List V} (ok : StOk T H μ S) (hm : μ[n]? = some a) (r : Reps T H μ ds' ys []) : StOk T (upd H a (.lst ys)) μ (S.set n (.lst ds')) := by
  have ma : a ∈ μ := List.mem_of_getElem? hm
  have s : Stp H μ (upd H a (.lst ys)) μ := Stp.put ma
  refine ok.put hm s ?_ ⟨ys, upd_same, Reps.keep ok.kinds s _ _ _ r (by simp)⟩
  intro b hb
  have : b = a := by simpa using hb
  subst this; exact .inl ⟨ys, upd_same⟩
end
theorem list_extend_tuple_any (l : Addr) (items : Array Value) (n : Nat) (b : Addr) (dd : Option Addr) (sl : Array (Option Value)) (items2 : Array Value) (n2 : Nat) (hs0 : ¬(!items.isEmpty && Builtin.List.listTooLong (items.size + items2.size)) = true) (hs1 : items.size ≤ sizeLine) (hs2 : items.size + items2.size ≤ sizeLine + 1) :
    Meets (Builtin.«list.extend» ⟨[.ref l, .ref b], []⟩) (fun _ R s => s.heap.get? l = some { cls := .type "list", dict := none, data := .seq items n, slots := #[] } ∧ s.heap.get? b = some { cls := .type "tuple", dict := dd, data := .seq items2 n2, slots := sl } ∧ R (.ok (.ret Value.none)) { s with heap := s.heap.update l (Obj.mapSeq fun x => x ++ items2), toks := s.toks }) :=
  .of_wp fun prog w A R s h => by
    obtain ⟨hp, g, d, tk, os⟩ := s; obtain ⟨hl, hb, h⟩ := h; have f1 := AutoSeq1.idx_int; have f2 := AutoSeq1.sub_tuple_tuple; have f3 := AutoSeq1.sub_list_list; have f4 := AutoSeq1.sub_tuple_list; have f5 := AutoSeq1.sub_list_tuple;
    have hz' : (items ++ items2).size ≤ sizeLine + 1 := by rw [Array.size_append]; exact hs2
    wp_walk using (wpAny_updateSeq hl rfl (hz := hs1) (_hz' := hz')), wpAny_loadPart' hl, wpAny_loadPart' hb; exact ⟨_, rfl, h⟩
section
variable {X : Cx} {C : Nat → Addr}
theorem mt_extendT : MtR X "list.extend" (fun x vs H Q => ∃ l b xs zs, x = .ref l ∧ vs = [.ref b] ∧ H l = some (.lst xs) ∧ SqT X.K H b zs ∧ xs.length + zs.length ≤ sizeLine ∧ Q .non (upd H l (.lst (xs ++ zs)))) := by
  intro pins s σ H x vs v us Q I rx rv h
  obtain ⟨l, b, xs, zs, rfl, rfl, hH, hB, hz, q⟩ := h
  cases rx
  obtain ⟨u, rfl, ru⟩ := rv.one
  cases ru
  obtain ⟨z, its, n, r, hl, e⟩ := I.lstM hH
  obtain ⟨its2, r2, ⟨⟨oc, od, dt, osl⟩, e2, hc2, n2, hd2⟩, _⟩ := I.tuple hB
  dsimp only at hc2 hd2
  subst hc2 hd2
  have hl2 := r2.length
  have hsz : its.toArray.size + its2.toArray.size ≤ sizeLine := by rw [List.size_toArray, List.size_toArray]; omega
  have hlong : ¬ (!its.toArray.isEmpty && Builtin.List.listTooLong (its.toArray.size + its2.toArray.size)) = true := by
    rw [notLongL hsz, Bool.and_false]
    exact Bool.false_ne_true
  refine call_meets F.slot_list_extend ⟨_, e, rfl⟩ F.entry_list_extend (F.args_list_extend_2 _ _)
    (list_extend_tuple_any l its.toArray n b _ _ its2.toArray n2 hlong (by rw [List.size_toArray]; omega) (by omega)) ⟨e, e2, ?_⟩
  refine ⟨.non, _, I.lset (its' := its ++ its2) hH e (by simp) (r.append r2) ?_, rfl, q⟩
  rw [List.length_append]
  omega
theorem mt_getN (hu : X.A.units + 20 < cLine) {s : Shared} {σ : Slots} {H : Hp} {pins : List (Addr × Obj)} {Q : VK} {x : V} {xs : List V} {v : Value} {us : List Value} (I : Inv X pins σ H s) (rx : RelV x v) (rv : Vals xs us) {d k w : D} {S : Sto} {μ f1 f2 : List Addr} {ks vs : List D}
    (r1 : Rep (tOf X C) H μ d x f1) (r2 : Reps (tOf X C) H μ [k, w] xs f2) (ok : StOk (tOf X C) H μ S) (nd : (μ ++ (f1 ++ f2)).Nodup) (hd : ndOf S d = some (ks, vs)) (hk : tkeyOk k = true)
    (q : ∀ v H' μ' fp, StpO (f1 ++ f2) H μ H' μ' → StOk (tOf X C) H' μ' S → Rep (tOf X C) H' μ' ((getK ks vs k).getD w) v fp → (μ' ++ fp).Nodup → (∀ a ∈ fp, a ∈ f1 ++ f2 ∨ H a = none) → Q v H') :
    wpAny (model X.prog X.w) X.A (call (.builtin "dict.get") (v :: us)) (EP X pins σ Q) X.xe s := by
  obtain ⟨y, y2, g1, g2, rfl, q1, q2, rfl⟩ := Reps.two r2
  obtain ⟨a, zs, g, rfl, n, rs, sb⟩ := nd_at I ok r1 hd
  cases rx
  cases rv with
  | cons ra rr =>
    cases rr with
    | cons rb rr =>
      cases rr
      obtain ⟨b, rfl, rfl, rfl, kb⟩ := tkey_at I q1 ra hk
      refine nd_get hu I n rs hk kb rb (fun z v f e rz sf u s' ru I' => ⟨v, H, I', ru, ?_⟩) fun e s' I' => ⟨y2, H, I', rb, ?_⟩
      · rw [e] at q
        have h4 : f.Sublist (f1 ++ ([] ++ g2)) := sub_l (sf.trans sb)
        exact q v H μ f StpO.refl ok rz (nd_sub nd h4) fun a m => .inl (h4.mem m)
      · rw [e] at q
        have h4 : g2.Sublist (f1 ++ ([] ++ g2)) := (List.sublist_append_right _ _).trans (List.sublist_append_right _ _)
        exact q y2 H μ g2 StpO.refl ok q2 (nd_sub nd h4) fun a m => .inl (h4.mem m)
theorem mt_d (hu : X.A.units + 20 < cLine) : ∀ m : Mth, MtR X (mId m) (rMth (tOf X C) m) := by
  intro m pins s σ H x xs v us Q I rx rv ⟨d, ds, S, μ, f1, f2, z, S', r1, r2, ok, nd, e, q⟩
  unfold mthE at e
  split at e
  · rename_i n w
    split at e
    · rename_i ds' hS
      split at e
      · rename_i hl
        cases e
        obtain ⟨a, rfl, hm, rfl⟩ := r1
        obtain ⟨y, rfl, ry⟩ := Reps.one r2
        obtain ⟨vs, ha, rs⟩ := ok.at_ n _ a hS hm
        have nd' : (μ ++ f2).Nodup := by simpa using nd
        obtain ⟨g1, g2⟩ := settle_ok w y f2 μ S ry ok nd'
        have kf := Rep.kinds w y f2 ry
        refine mt_append pins s σ H _ _ v us Q I rx rv ⟨a, vs, y, rfl, rfl, ha, by rw [Reps.len _ _ _ rs]; exact hl, ?_⟩
        have hm' : (μ ++ f2)[n]? = some a := widen_g n a hm
        have ok' := put_list g2 hm' (Reps.append _ _ _ _ _ _ (Reps.widen kf _ _ _ rs) (show Reps (tOf X C) H (μ ++ f2) [(settle w S).1] [y] [] from ⟨y, [], [], [], rfl, g1, ⟨rfl, rfl⟩, rfl⟩))
        exact q _ _ _ [] (StpO.put (List.mem_of_getElem? hm) (fun b hb => by simpa using hb)) ok' ⟨rfl, rfl⟩ (by simpa using ok'.nd) (by simp)
      · cases e
    · cases e
  · rename_i n
    split at e
    · rename_i ds' hS
      split at e
      · rename_i d' hd
        cases e
        obtain ⟨a, rfl, hm, rfl⟩ := r1
        obtain ⟨rfl, rfl⟩ := r2
        obtain ⟨vs, ha, rs⟩ := ok.at_ n _ a hS hm
        have hl := Reps.len _ _ _ rs
        rw [List.getLast?_eq_getElem?] at hd
        obtain ⟨y, f, h1, h2, h3⟩ := Reps.get _ _ _ _ _ rs hd
        have hf : f = [] := List.sublist_nil.mp h3
        subst hf
        refine mt_pop pins s σ H _ _ v us Q I rx rv ⟨a, vs, y, rfl, rfl, ha, by rw [hl]; exact h1, ?_⟩
        obtain ⟨g, g1, g2⟩ := Reps.take (ds'.length - 1) _ _ _ rs
        have hg : g = [] := List.sublist_nil.mp g2
        subst hg
        have e1 : vs.dropLast = vs.take (ds'.length - 1) := by rw [List.dropLast_eq_take, hl]
        have e2 : ds'.dropLast = ds'.take (ds'.length - 1) := by rw [List.dropLast_eq_take]
        rw [e1]
        rw [e2] at q
        have ok' := put_list ok hm g1
        have st : StpO ([] ++ []) H μ (upd H a (.lst (vs.take (ds'.length - 1)))) (μ ++ []) := StpO.put (List.mem_of_getElem? hm) (by simp)
        rw [List.append_nil μ] at st
        have s1 : Stp H μ (upd H a (.lst (vs.take (ds'.length - 1)))) μ := Stp.put (List.mem_of_getElem? hm)
        exact q _ _ μ [] st ok' (Rep.keep ok.kinds s1 _ _ _ h2 (by simp)) (by simpa using ok'.nd) (by simp)
      · cases e
    · cases e
  · rename_i n es
    split at e
    · rename_i ds' hS
      split at e
      · rename_i hl
        cases e
        obtain ⟨a, rfl, hm, rfl⟩ := r1
        obtain ⟨y, rfl, p, zs, rfl, sq, ry⟩ := Reps.one r2
        obtain ⟨vs, ha, rs⟩ := ok.at_ n _ a hS hm
        have nd' : (μ ++ f2).Nodup := by simpa using nd
        obtain ⟨g1, g2⟩ := settles_ok es zs f2 μ S ry ok nd'
        have kf := Reps.kinds es zs f2 ry
        refine mt_extendT pins s σ H _ _ v us Q I rx rv ⟨a, p, vs, zs, rfl, rfl, ha, sq, by rw [Reps.len _ _ _ rs, Reps.len _ _ _ ry]; exact of_decide_eq_true hl, ?_⟩
        have hm' : (μ ++ f2)[n]? = some a := widen_g n a hm
        have ok' := put_list g2 hm' (Reps.append _ _ _ _ _ _ (Reps.widen kf _ _ _ rs) g1)
        exact q _ _ _ [] (StpO.put (List.mem_of_getElem? hm) (fun b hb => by simpa using hb)) ok' ⟨rfl, rfl⟩ (by simpa using ok'.nd) (by simp)
      · cases e
    · cases e
  · rename_i x' w
    split at e
    · rename_i ys hy
      split at e
      · rename_i hl
        cases e
        obtain ⟨rfl, rfl⟩ := r1
        obtain ⟨y, rfl, ry⟩ := Reps.one r2
        obtain ⟨ds', e2, e3⟩ := Option.bind_eq_some_iff.mp hy
        obtain ⟨a, vs, g, rfl, sq, rs, _⟩ := list_at ok ry e2
        have ei := Reps.strs _ _ _ _ rs e3
        subst ei
        exact mt_join pins s σ H _ _ v us Q I rx rv ⟨x', a, ys, rfl, rfl, .inl sq, of_decide_eq_true hl, q _ H μ [] StpO.refl ok ⟨rfl, rfl⟩ (by simpa using ok.nd) (by simp)⟩
      · cases e
    · cases e
  · split at e
    · rename_i hl
      cases e
      obtain ⟨rfl, rfl⟩ := r1
      obtain ⟨rfl, rfl⟩ := r2
      exact mt_upper pins s σ H _ _ v us Q I rx rv ⟨_, rfl, rfl, hl, q _ H μ [] StpO.refl ok ⟨rfl, rfl⟩ (by simpa using ok.nd) (by simp)⟩
    · cases e
  · rename_i d' k w
    split at e
    · rename_i ks vs' hd
      split at e
      · rename_i hk
        cases e
        obtain ⟨y, y2, g1, g2, rfl, q1, q2, rfl⟩ := Reps.two r2
        obtain ⟨key, rfl, rfl⟩ := keyV q1 hk
        obtain ⟨a, us', g, rfl, ⟨kvs, ha, rfl, rfl, _⟩, rs, sb⟩ := dict_at ok r1 hd
        cases rx
        cases rv with
        | cons ra rr =>
          cases rr with
          | cons rb rr =>
            cases rr
            refine d_get2 (by omega) I (DGet.k ha) ra rb fun w' s' I' rw' => ⟨_, H, I', rw', ?_⟩
            cases hv : getK (kvs.map fun p => keyD p.1) vs' (keyD key) with
            | some zz =>
              obtain ⟨u, f, h1, h2, h3⟩ := getK_val key kvs vs' g zz rs hv
              rw [hv] at q
              rw [h1]
              have h4 : f.Sublist (f1 ++ (g1 ++ g2)) := sub_l (h3.trans sb)
              exact q u H μ f StpO.refl ok h2 (nd_sub nd h4) fun a m => .inl (h4.mem m)
            | none =>
              rw [hv] at q
              have e1 : valV kvs key = none := by
                cases hvv : valV kvs key with
                | none => rfl
                | some uu =>
                  exfalso
                  have e2 : (find (kvs.map fun p => keyD p.1) (keyD key)).isSome = true := by rw [find_key, findIdx_val, hvv]; rfl
                  obtain ⟨i, hi⟩ := Option.isSome_iff_exists.mp e2
                  unfold getK at hv
                  rw [hi] at hv
                  have hi' := hi
                  rw [find_key] at hi'
                  have hlt : i < kvs.length := (List.findIdx?_eq_some_iff_findIdx_eq.mp hi').1
                  have hl := Reps.len _ _ _ rs
                  rw [List.length_map] at hl
                  have hv' : vs'[i]? = none := hv
                  rw [List.getElem?_eq_none_iff] at hv'
                  omega
              rw [e1]
              have h4 : g2.Sublist (f1 ++ (g1 ++ g2)) := (List.sublist_append_right _ _).trans (List.sublist_append_right _ _)
              exact q y2 H μ g2 StpO.refl ok q2 (nd_sub nd h4) fun a m => .inl (h4.mem m)
      · split at e
        · rename_i ks vs hn
          split at e
          · rename_i hk
            cases e
            exact mt_getN hu I rx rv r1 r2 ok nd hn hk q
          · cases e
        · cases e
    · split at e
      · rename_i ks vs hn
        split at e
        · rename_i hk
          cases e
          exact mt_getN hu I rx rv r1 r2 ok nd hn hk q
        · cases e
      · cases e
  · rename_i x' y'
    split at e
    · rename_i hl
      cases e
      obtain ⟨rfl, rfl⟩ := r1
      obtain ⟨w, rfl, rfl, rfl⟩ := Reps.one r2
      refine mt_split pins s σ H _ _ v us Q I rx rv ⟨_, _, rfl, rfl, hl.1, hl.2, fun p np => ?_⟩
      have sm : Same H (upd H p (.lst ((Txt.split x' y').map V.str))) := Same.upd np
      refine q (.ref p) _ μ [p] (StpO.sm sm) (StOk.same sm ok) ⟨p, _, [], rfl, upd_same, reps_strs _ _ _ _, rfl⟩ ?_ (fun a m => .inr (by
        have : a = p := by simpa using m
        subst this; exact np))
      refine List.nodup_append.mpr ⟨ok.nd, by simp, fun a ha b hb z => ?_⟩
      have hb' : b = p := by simpa using hb
      subst hb'; subst z
      rcases ok.kinds a ha with ⟨_, z⟩ | ⟨_, z⟩ | ⟨_, z⟩ <;> (rw [np] at z; cases z)
    · cases e
  · cases e
    obtain ⟨rfl, rfl⟩ := r1
    obtain ⟨w, rfl, rfl, rfl⟩ := Reps.one r2
    exact mt_startswith pins s σ H _ _ v us Q I rx rv ⟨_, _, rfl, rfl, q _ H μ [] StpO.refl ok ⟨rfl, rfl⟩ (by simpa using ok.nd) (by simp)⟩
  · rename_i x' y'
    split at e
    · rename_i hl
      cases e
      obtain ⟨rfl, rfl⟩ := r1
      obtain ⟨w, rfl, rfl, rfl⟩ := Reps.one r2
      refine mt_partition pins s σ H _ _ v us Q I rx rv ⟨_, _, rfl, rfl, hl.1, hl.2, fun p np => ?_⟩
      have sm : Same H (upd H p (.tup [.str (Txt.partition x' y').1, .str (Txt.partition x' y').2.1, .str (Txt.partition x' y').2.2])) := Same.upd np
      exact q (.ref p) _ μ [] (StpO.sm sm) (StOk.same sm ok) ⟨p, _, rfl, .inl (.inl upd_same), reps_strs _ _ _ [(Txt.partition x' y').1, (Txt.partition x' y').2.1, (Txt.partition x' y').2.2]⟩ (by simpa using ok.nd) (by simp)
    · cases e
  · cases e
end
end Ev
end
section
set_option Elab.async false
set_option linter.all false
set_option maxRecDepth 100000
namespace Ev
open PySem PySem.Spec PyProof.Rows L2 PySem.SeqAt
/-! ### what is walked -/
/-- the iterator J walks the items ds; G i H μ: how things lie ahead of turn i; P: what is said of the objects that items hold alone -/
structure Walk (T : Pgm) (P : Addr → Prop) (J : It) (ds : List D) (lk : Option (Nat × List D)) (G : Nat → Hp → List Addr → Prop) : Prop where
  item : ∀ (i : Nat) (d : D) (H : Hp) (μ : List Addr) (S : Sto), ds[i]? = some d → G i H μ → StOk T H μ S → stays lk S → J.go i H ∧ ∀ v H1, J.yld i H v H1 →
    Same H H1 ∧ ∃ fp, Rep T H1 μ d v fp ∧ (μ ++ fp).Nodup ∧ (∀ a ∈ fp, P a) ∧ G (i + 1) H1 (μ ++ fp)
  stop : ∀ (i : Nat) (H : Hp) (μ : List Addr) (S : Sto), ds.length ≤ i → G i H μ → StOk T H μ S → stays lk S → J.stop i H
  keep : ∀ (i : Nat) (H : Hp) (μ : List Addr) (H' : Hp) (μ' : List Addr), G i H μ → Kinds H μ → Stp H μ H' μ' → μ'.Nodup → G i H' μ'
/-- items that lie in a sequence that is not in the store -/
def Lies (T : Pgm) (P : Addr → Prop) (ow : List Addr) (sq : Hp → List V → Prop) (ds : List D) (i : Nat) (H : Hp) (μ : List Addr) : Prop :=
  ∃ vs fp, sq H vs ∧ vs.length = ds.length ∧ Reps T H μ (ds.drop i) (vs.drop i) fp ∧ (μ ++ (fp ++ ow)).Nodup ∧ (∀ a ∈ fp, P a) ∧ ∀ a ∈ ow, ∃ o, H a = some o
section
variable {T : Pgm} {P : Addr → Prop}
theorem lies_item {ow : List Addr} {sq : Hp → List V → Prop} {ds : List D} {i : Nat} {H : Hp} {μ : List Addr} {d : D} (h : Lies T P ow sq ds i H μ) (e : ds[i]? = some d) :
    ∃ vs v fp, sq H vs ∧ vs[i]? = some v ∧ Rep T H μ d v fp ∧ (μ ++ fp).Nodup ∧ (∀ a ∈ fp, P a) ∧ Lies T P ow sq ds (i + 1) H (μ ++ fp) := by
  obtain ⟨vs, fp, h1, hl, h2, h3, h4, h5⟩ := h
  obtain ⟨hi, rfl⟩ := List.getElem?_eq_some_iff.mp e
  rw [List.drop_eq_getElem_cons hi, List.drop_eq_getElem_cons (by omega : i < vs.length)] at h2
  obtain ⟨v, r, f1, f2, e1, r1, r2, rfl⟩ := h2
  obtain ⟨rfl, rfl⟩ := List.cons.inj e1
  rw [List.append_assoc, ← List.append_assoc] at h3
  exact ⟨vs, vs[i], f1, h1, List.getElem?_eq_getElem _, r1, nd_left h3, fun a m => h4 a (List.mem_append_left _ m), vs, f2, h1, hl, Reps.widen (Rep.kinds _ _ _ r1) _ _ _ r2, h3, fun a m => h4 a (List.mem_append_right _ m), h5⟩
theorem lies_keep {ow : List Addr} {sq : Hp → List V → Prop} {ds : List D} {i : Nat} {H H' : Hp} {μ μ' : List Addr} (hs : ∀ vs, sq H vs → (∀ a ∈ ow, a ∉ μ) → sq H' vs) (k : Kinds H μ) (s : Stp H μ H' μ') (nd : μ'.Nodup) (h : Lies T P ow sq ds i H μ) : Lies T P ow sq ds i H' μ' := by
  obtain ⟨vs, fp, h1, hl, h2, h3, h4, h5⟩ := h
  have no := nd_out h3
  refine ⟨vs, fp, hs vs h1 fun a m => no a (List.mem_append_right _ m), hl, Reps.keep k s _ _ _ h2 fun a m => no a (List.mem_append_left _ m), ?_, h4, fun a m => ?_⟩
  · have := nd_step (f2 := []) s h3 (by simpa using nd) (fun a m => (List.mem_append.mp m).elim (Reps.there _ _ _ h2 a) (h5 a)) (by simp)
    simpa using this
  · obtain ⟨o, e⟩ := h5 a m
    exact s.dom a o e
theorem walk_sq {ow : List Addr} {ds : List D} {J : It} {sq : Hp → List V → Prop}
    (hs : ∀ H μ H' μ' vs, Kinds H μ → Stp H μ H' μ' → (∀ a ∈ ow, a ∉ μ) → sq H vs → sq H' vs)
    (hgo : ∀ i H vs v, sq H vs → vs[i]? = some v → J.go i H) (hy : ∀ i H v H' vs, J.yld i H v H' → sq H vs → H' = H ∧ vs[i]? = some v) (hst : ∀ i H vs, sq H vs → vs.length ≤ i → J.stop i H) :
    Walk T P J ds none (Lies T P ow sq ds) where
  item := fun i d H μ S e g ok _ => by
    obtain ⟨vs, v, fp, h1, h2, h3, h4, h5, h6⟩ := lies_item g e
    refine ⟨hgo i H vs v h1 h2, fun u H1 y => ?_⟩
    obtain ⟨rfl, e2⟩ := hy i H u H1 vs y h1
    rw [h2] at e2; cases e2
    exact ⟨fun _ _ e => e, fp, h3, h4, h5, h6⟩
  stop := fun i H μ S hi g ok _ => by
    obtain ⟨vs, fp, h1, hl, _⟩ := g
    exact hst i H vs h1 (by omega)
  keep := fun i H μ H' μ' g k s nd => lies_keep (fun vs a b => hs H μ H' μ' vs k s b a) k s nd g
theorem walk_tup {ow : List Addr} {K : PySem.W.Frag} {a : Addr} {ds : List D} : Walk T P (Itt K a) ds none (Lies T P ow (fun H vs => SqT K H a vs) ds) :=
  walk_sq (fun H μ H' μ' vs k s _ q => SqT.keep k s.fr q) (fun i H vs v q e => ⟨vs, v, q, e⟩) (fun i H v H' vs y q => ⟨y.1, y.2 vs q⟩) fun i H vs q e => ⟨vs, q, e⟩
theorem walk_fz {ow : List Addr} {K : PySem.W.Frag} {a : Addr} {ds : List D} : Walk T P (Itl K a) ds none (Lies T P ow (fun H vs => FzAt K H a vs) ds) :=
  walk_sq (fun H μ H' μ' vs k s _ q => FzAt.keep k s.fr q) (fun i H vs v q e => ⟨vs, v, q.sq, e⟩) (fun i H v H' vs y q => ⟨y.1, y.2 vs q.sq⟩) fun i H vs q e => ⟨vs, q.sq, e⟩
theorem walk_lst {ow : List Addr} {K : PySem.W.Frag} {a : Addr} {ds : List D} (ha : a ∈ ow) : Walk T P (Itl K a) ds none (Lies T P ow (fun H vs => H a = some (.lst vs)) ds) :=
  walk_sq (fun H μ H' μ' vs k s n q => s.fr _ _ q (n a ha)) (fun i H vs v q e => ⟨vs, v, SqL.of q, e⟩) (fun i H v H' vs y q => ⟨y.1, y.2 vs (SqL.of q)⟩) fun i H vs q e => ⟨vs, SqL.of q, e⟩
theorem walk_ref {K : PySem.W.Frag} {a : Addr} {ds : List D} {n : Nat} : Walk T P (Itl K a) ds (some (n, ds)) (fun _ _ μ => μ[n]? = some a) where
  item := fun i d H μ S e g ok st => by
    obtain ⟨vs, q, r⟩ := ok.at_ n _ a (show S[n]? = some (.lst ds) from st) g
    obtain ⟨v, f, h1, h2, h3⟩ := Reps.get _ _ _ _ _ r e
    have hf : f = [] := List.sublist_nil.mp h3
    subst hf
    refine ⟨⟨vs, v, SqL.of q, h1⟩, fun u H1 y => ?_⟩
    obtain ⟨rfl, y⟩ := y
    have := y vs (SqL.of q)
    rw [h1] at this; cases this
    exact ⟨fun _ _ e => e, [], h2, by simpa using ok.nd, by simp, by rw [List.append_nil]; exact g⟩
  stop := fun i H μ S hi g ok st => by
    obtain ⟨vs, q, r⟩ := ok.at_ n _ a (show S[n]? = some (.lst ds) from st) g
    exact ⟨vs, SqL.of q, by rw [Reps.len _ _ _ r]; exact hi⟩
  keep := fun i H μ H' μ' g k s nd => s.get g
theorem walk_rng {lo : Int} {n : Nat} : Walk T P (Itr lo n) ((List.range n).map fun (k : Nat) => .int (lo + k)) none (fun _ _ _ => True) where
  item := fun i d H μ S e g ok st => by
    rw [List.getElem?_map] at e
    obtain ⟨j, e1, rfl⟩ := Option.map_eq_some_iff.mp e
    obtain ⟨hi, e2⟩ := List.getElem?_eq_some_iff.mp e1
    rw [List.getElem_range] at e2
    subst e2
    refine ⟨show i < n by simpa using hi, fun u H1 y => ?_⟩
    obtain ⟨rfl, rfl⟩ := y
    exact ⟨fun _ _ e => e, [], ⟨rfl, rfl⟩, by simpa using ok.nd, by simp, trivial⟩
  stop := fun i H μ S hi g ok st => show n ≤ i by simpa using hi
  keep := fun _ _ _ _ _ _ _ _ _ => trivial
theorem walk_str {x : Str} : Walk T P (Its x) (x.cps.toList.map fun c => .str ⟨#[c]⟩) none (fun _ _ _ => True) where
  item := fun i d H μ S e g ok st => by
    rw [List.getElem?_map] at e
    obtain ⟨c, e1, rfl⟩ := Option.map_eq_some_iff.mp e
    have e2 : x.cps[i]? = some c := by simpa using e1
    refine ⟨(Array.getElem?_eq_some_iff.mp e2).1, fun u H1 y => ?_⟩
    obtain ⟨rfl, c', e3, rfl⟩ := y
    rw [e2] at e3; cases e3
    exact ⟨fun _ _ e => e, [], ⟨rfl, rfl⟩, by simpa using ok.nd, by simp, trivial⟩
  stop := fun i H μ S hi g ok st => show x.cps.size ≤ i by simpa using hi
  keep := fun _ _ _ _ _ _ _ _ _ => trivial
theorem walk_zip {K : PySem.W.Frag} {a b : Addr} {as bs : List D} (hK : T.K = K) : Walk T P (RZ.ItzT K a b) (as.zipWith (fun x y => .tup [x, y]) bs) none
    (fun _ H μ => ∃ xs ys, SqT K H a xs ∧ SqT K H b ys ∧ Reps T H μ as xs [] ∧ Reps T H μ bs ys []) where
  item := fun i d H μ S e g ok st => by
    obtain ⟨xs, ys, q1, q2, r1, r2⟩ := g
    rw [List.getElem?_zipWith] at e
    split at e
    · rename_i x y ex ey
      cases e
      obtain ⟨v, f, h1, h2, h3⟩ := Reps.get _ _ _ _ _ r1 ex
      obtain ⟨v', f', h1', h2', h3'⟩ := Reps.get _ _ _ _ _ r2 ey
      have hf : f = [] := List.sublist_nil.mp h3
      have hf' : f' = [] := List.sublist_nil.mp h3'
      subst hf; subst hf'
      refine ⟨⟨xs, ys, v, v', q1, q2, h1, h1'⟩, fun u H1 y => ?_⟩
      obtain ⟨p, x1, x2, rfl, np, rfl, y1, y2⟩ := y
      have e1 := y1 xs q1
      have e2 := y2 ys q2
      rw [h1] at e1; rw [h1'] at e2
      cases e1; cases e2
      have sm : Same H (upd H p (.tup [v, v'])) := Same.upd np
      refine ⟨sm, [], ⟨p, [v, v'], rfl, .inl (.inl upd_same), v, [v'], [], [], rfl, Rep.same sm _ _ _ h2, ⟨v', [], [], [], rfl, Rep.same sm _ _ _ h2', ⟨rfl, rfl⟩, rfl⟩, rfl⟩, by simpa using ok.nd, by simp, ?_⟩
      rw [List.append_nil]
      exact ⟨xs, ys, SqT.keep Same.k0 (fun b o e _ => sm b o e) q1, SqT.keep Same.k0 (fun b o e _ => sm b o e) q2, Reps.same sm _ _ _ r1, Reps.same sm _ _ _ r2⟩
    · cases e
  stop := fun i H μ S hi g ok st => by
    obtain ⟨xs, ys, q1, q2, r1, r2⟩ := g
    rw [List.length_zipWith] at hi
    have l1 := Reps.len _ _ _ r1
    have l2 := Reps.len _ _ _ r2
    exact ⟨xs, ys, q1, q2, by omega⟩
  keep := fun i H μ H' μ' g k s nd => by
    obtain ⟨xs, ys, q1, q2, r1, r2⟩ := g
    exact ⟨xs, ys, SqT.keep k s.fr q1, SqT.keep k s.fr q2, Reps.keep k s _ _ _ r1 (by simp), Reps.keep k s _ _ _ r2 (by simp)⟩
end
/-- new since H0, there in H1 -/
def Nw (H0 H1 : Hp) (a : Addr) : Prop := H0 a = none ∧ ∃ o, H1 a = some o
/-- an iterator is made; N: with a new list beside it that grows -/
structure Begun (T : Pgm) (H0 : Hp) (J : It) (ds : List D) (lk : Option (Nat × List D)) (H1 : Hp) (μ1 : List Addr) : Prop where
  len : ds.length ≤ sizeLine
  fwd : ∃ G, Walk T (Nw H0 H1) J ds lk G ∧ G 0 H1 μ1
  new : ∀ N, H1 N = none → ∃ G, Walk T (Nw H0 H1) J ds lk G ∧ G 0 (upd H1 N (.lst [])) μ1 ∧ ∀ i H μ xs ys, G i H μ → N ∉ μ → H N = some (.lst xs) → G i (upd H N (.lst ys)) μ
section
variable {T : Pgm} {H0 : Hp}
theorem kinds1 {H : Hp} {N : Addr} {xs : List V} (h : H N = some (.lst xs)) : Kinds H [N] := fun b m => by
  have : b = N := by simpa using m
  subst this; exact .inl ⟨xs, h⟩
theorem fr1 {H : Hp} {N : Addr} {o : HO} : ∀ b u, H b = some u → b ∉ [N] → upd H N o b = some u := fun b u e n => by
  rw [upd_ne (by simpa using n)]; exact e
theorem exc1 {H : Hp} {N : Addr} {xs : List V} {μ : List Addr} (h : H N = some (.lst xs)) (a c : Addr) (q : H a = some (excHO c a)) (n : a ∉ μ) : a ∉ μ ∧ a ∉ [N] := ⟨n, fun m => by
  have : a = N := by simpa using m
  subst this; rw [h] at q; cases q⟩
theorem Reps.upd1 {H : Hp} {N : Addr} {xs ys : List V} {μ : List Addr} {ds : List D} {vs : List V} {fp : List Addr} (h : H N = some (.lst xs)) (r : Reps T H μ ds vs fp) (n : N ∉ fp) : Reps T (L2.upd H N (.lst ys)) μ ds vs fp :=
  Reps.keepG (kinds1 h) fr1 (fun _ _ e => e) (exc1 h) ds vs fp r fun a m z => n (by
    have : a = N := by simpa using z
    rw [← this]; exact m)
theorem SqT.upd1 {K : PySem.W.Frag} {H : Hp} {N a : Addr} {xs ys vs : List V} (h : H N = some (.lst xs)) (q : SqT K H a vs) : SqT K (L2.upd H N (.lst ys)) a vs := SqT.keep (kinds1 h) fr1 q
theorem FzAt.upd1 {K : PySem.W.Frag} {H : Hp} {N a : Addr} {xs ys vs : List V} (h : H N = some (.lst xs)) (q : FzAt K H a vs) : FzAt K (L2.upd H N (.lst ys)) a vs := FzAt.keep (kinds1 h) fr1 q
theorem begun_lies {J : It} {ds : List D} {sq : Hp → List V → Prop} {ow : List Addr} {H1 : Hp} {μ1 : List Addr} {S : Sto} (hlen : ds.length ≤ sizeLine) (ok : StOk T H1 μ1 S) (w : ∀ ow', Walk T (Nw H0 H1) J ds none (Lies T (Nw H0 H1) (ow ++ ow') sq ds)) (l : Lies T (Nw H0 H1) ow sq ds 0 H1 μ1)
    (h1 : ∀ H N vs, sq H vs → H N = none → sq (upd H N (.lst [])) vs) (h2 : ∀ H N xs ys vs, sq H vs → H N = some (.lst xs) → N ∉ ow → sq (upd H N (.lst ys)) vs) : Begun T H0 J ds none H1 μ1 where
  len := hlen
  fwd := ⟨_, by simpa using w [], l⟩
  new := fun N nN => by
    obtain ⟨vs, fp, a1, a2, a3, a4, a5, a6⟩ := l
    have nf : ∀ a ∈ fp, a ≠ N := fun a m e => by
      obtain ⟨o, z⟩ := Reps.there _ _ _ a3 a m
      rw [e, nN] at z; cases z
    have no : ∀ a ∈ ow, a ≠ N := fun a m e => by
      obtain ⟨o, z⟩ := a6 a m
      rw [e, nN] at z; cases z
    have nm : ∀ a ∈ μ1, a ≠ N := fun a m e => by
      rcases ok.kinds a m with ⟨_, z⟩ | ⟨_, z⟩ | ⟨_, z⟩ <;> (rw [e, nN] at z; cases z)
    refine ⟨_, w [N], ⟨vs, fp, h1 _ _ _ a1 nN, a2, Reps.same (Same.upd nN) _ _ _ a3, ?_, a5, fun a m => ?_⟩, fun i H μ xs ys g hn hN => ?_⟩
    · rw [← List.append_assoc, ← List.append_assoc]
      rw [← List.append_assoc] at a4
      refine List.nodup_append.mpr ⟨a4, by simp, fun x hx y hy e => ?_⟩
      have hy' : y = N := by simpa using hy
      subst e
      subst hy'
      rcases List.mem_append.mp hx with hx | hx
      · rcases List.mem_append.mp hx with hx | hx
        · exact nm _ hx rfl
        · exact nf _ hx rfl
      · exact no _ hx rfl
    · rcases List.mem_append.mp m with m | m
      · obtain ⟨o, z⟩ := a6 a m
        exact ⟨o, Same.upd nN _ _ z⟩
      · have : a = N := by simpa using m
        subst this; exact ⟨_, upd_same⟩
    · obtain ⟨vs, fp, b1, b2, b3, b4, b5, b6⟩ := g
      obtain ⟨n1, n2, n3⟩ := List.nodup_append.mp b4
      obtain ⟨m1, m2, m3⟩ := List.nodup_append.mp n2
      obtain ⟨k1, k2, k3⟩ := List.nodup_append.mp m2
      refine ⟨vs, fp, h2 _ _ xs ys _ b1 hN fun m => k3 N m N (by simp) rfl, b2, Reps.upd1 hN b3 fun m => m3 N m N (by simp) rfl, b4, b5, fun a m => ?_⟩
      by_cases e : a = N
      · subst e; exact ⟨_, upd_same⟩
      · obtain ⟨o, z⟩ := b6 a m
        exact ⟨o, by rw [upd_ne e]; exact z⟩
theorem begun_any {J : It} {ds : List D} {lk : Option (Nat × List D)} {G : Nat → Hp → List Addr → Prop} {H1 : Hp} {μ1 : List Addr} (hlen : ds.length ≤ sizeLine) (w : Walk T (Nw H0 H1) J ds lk G) (g : G 0 H1 μ1)
    (h1 : ∀ N, H1 N = none → G 0 (upd H1 N (.lst [])) μ1) (h2 : ∀ i H μ N xs ys, G i H μ → N ∉ μ → H N = some (.lst xs) → G i (upd H N (.lst ys)) μ) : Begun T H0 J ds lk H1 μ1 :=
  ⟨hlen, ⟨G, w, g⟩, fun N nN => ⟨G, w, h1 N nN, fun i H μ xs ys => h2 i H μ N xs ys⟩⟩
end
/-- a sequence is not too long -/
def LenOk (K : PySem.W.Frag) (H : Hp) (v : V) : Prop := ∀ a xs, v = .ref a → (SqL K H a xs ∨ SqT K H a xs) → xs.length ≤ sizeLine
theorem Inv.lenOk {X : Cx} {pins : List (Addr × Obj)} {σ : Slots} {H : Hp} {s : Shared} (I : L2.Inv X pins σ H s) (v : V) : LenOk X.K H v := fun a xs _ h => by
  rcases h with h | h
  · obtain ⟨_, _, _, z⟩ := I.list h; exact z
  · obtain ⟨_, _, _, z⟩ := I.tuple h; exact z
theorem PE.len {X : Cx} {e : Expr} {t : TE} (h : L2.PE X e t) : L2.PE X e (fun σ H Q => t σ H fun v H1 => LenOk X.K H1 v → Q v H1) := ⟨fun pins s σ H Q I q =>
  thn (h.run pins s σ H _ I q) fun u s1 ⟨v, H1, I1, r, k⟩ => ⟨v, H1, I1, r, k (Inv.lenOk I1 v)⟩⟩
theorem PA.len {X : Cx} {es : List Expr} {t : TA} (h : PA X es t) : PA X es (fun σ H Q => t σ H fun vs H1 => (∀ v, LenOk X.K H1 v) → Q vs H1) := ⟨fun pos pins s σ H Q I q =>
  thn (h.run pos pins s σ H _ I q) fun u s1 ⟨v, H1, I1, r, k⟩ => ⟨v, H1, I1, r, k (Inv.lenOk I1)⟩⟩
/-- the reading of what a for walks -/
def tIt (T : Pgm) (W : WX) (g : G) (k : ItK) (es : List PE) : TI := fun σ H R => ∃ ρ S μ, EnvOk T H μ σ ρ ∧ StOk T H μ S ∧ Ran T W σ H μ (evalEs g es ρ S) fun ds S1 => ∃ its lk, itemsOf S1 k ds = some (its, lk) ∧
  ∀ J H1 μ1, Stp H μ H1 μ1 → StOk T H1 μ1 S1 → Begun T H J its lk H1 μ1 → R J H1
theorem PI.dep {X : Cx} {tg iter : Expr} {t : TI} (h : ∀ σ H R, t σ H R → ∃ t', PI X tg iter t' ∧ t' σ H R) : PI X tg iter t := ⟨fun pins s σ H R I q => by
  obtain ⟨t', h1, h2⟩ := h σ H R q
  exact h1.run pins s σ H R I h2⟩
section
variable {X : Cx} {C : Nat → Addr} {W : WX} {g : G} {tg : Expr}
/-- one operand, as a list of one -/
theorem ev_one {T : Pgm} {σ : Slots} {H : Hp} {μ : List Addr} {ρ : Env} {S : Sto} {e : PE} {Q : List D → Sto → Prop} (h : Ran T W σ H μ (evalEs g [e] ρ S) Q) : Ran T W σ H μ (evalE g e ρ S) fun d S1 => Q [d] S1 := by
  have h' : Ran T W σ H μ (bnd (evalE g e ρ S) fun d S => bnd (evalEs g [] ρ S) fun ds S => some (.ok (d :: ds) S)) Q := by
    unfold evalEs at h; exact h
  refine h'.bnd.imp fun d S1 _ q => ?_
  unfold evalEs at q
  exact q
theorem ev1e {T : Pgm} {σ : Slots} {H : Hp} {μ : List Addr} {ρ : Env} {S : Sto} {a : PE} (env : EnvOk T H μ σ ρ) (st : StOk T H μ S) {K : D → Sto → Prop} {Q : VK} (h : Ran T W σ H μ (evalE g a ρ S) K)
    (f : ∀ x S1 v H1 μ1 fp, evalE g a ρ S = some (.ok x S1) → Pst T H μ x S1 v H1 μ1 fp → K x S1 → Q v H1) : tEv T W g a σ H Q :=
  ⟨ρ, S, μ, env, st, h.imp fun x S1 e k v H1 μ1 fp p => f x S1 v H1 μ1 fp e p k⟩
theorem evse {T : Pgm} {σ : Slots} {H : Hp} {μ : List Addr} {ρ : Env} {S : Sto} {as : List PE} (env : EnvOk T H μ σ ρ) (st : StOk T H μ S) {K : List D → Sto → Prop} {Q : List V → Hp → Prop} (h : Ran T W σ H μ (evalEs g as ρ S) K)
    (f : ∀ x S1 v H1 μ1 fp, evalEs g as ρ S = some (.ok x S1) → Psts T H μ x S1 v H1 μ1 fp → K x S1 → Q v H1) : tEvs T W g as σ H Q :=
  ⟨ρ, S, μ, env, st, h.imp fun x S1 e k v H1 μ1 fp p => f x S1 v H1 μ1 fp e p k⟩
theorem pi_val {e : PE} {x : Expr} (he : L2.PE X x (tEv (tOf X C) W g e)) : PI X tg x (tIt (tOf X C) W g .val [e]) := by
  refine PI.dep fun σ H R ⟨ρ, S, μ, env, st, h⟩ => ?_
  have h1 := ev_one h
  cases hm : evalE g e ρ S with
  | none => rw [hm] at h1; exact h1.elim
  | some r =>
    cases r with
    | ex c S1 =>
      refine ⟨_, pi_list he, ev1e env st h1 fun x S1' v H1 μ1 fp e1 p k => ?_⟩
      rw [hm] at e1; cases e1

    | ok d S1 =>
      have h2 : ∃ its lk, itemsOf S1 .val [d] = some (its, lk) ∧ ∀ J H1 μ1, Stp H μ H1 μ1 → StOk (tOf X C) H1 μ1 S1 → Begun (tOf X C) H J its lk H1 μ1 → R J H1 := by
        rw [hm] at h1; exact h1
      obtain ⟨its, lk, hi, q⟩ := h2
      have go : ∀ {Q : VK}, (∀ v H1 μ1 fp, Pst (tOf X C) H μ d S1 v H1 μ1 fp → Q v H1) → tEv (tOf X C) W g e σ H Q := fun {Q} f => ev1e env st h1 fun x S1' v H1 μ1 fp e1 p k => by
        rw [hm] at e1; cases e1; exact f v H1 μ1 fp p
      cases d with
      | tup ds =>
        cases hi
        refine ⟨_, pi_tup (PE.len he), go fun v H1 μ1 fp p lo => ?_⟩
        obtain ⟨a, vs, rfl, sq, rs⟩ := p.rep
        exact ⟨a, rfl, ⟨vs, sq⟩, q _ H1 μ1 p.stp p.ok (begun_lies (ow := []) (by rw [← Reps.len _ _ _ rs]; exact lo a vs rfl (.inr sq)) p.ok (fun _ => walk_tup) ⟨vs, fp, sq, Reps.len _ _ _ rs, rs, by simpa using p.nd, fun b m => ⟨p.new b m, Reps.there _ _ _ rs b m⟩, by simp⟩ (fun H N vs q n => SqT.keep Same.k0 (fun b o e _ => Same.upd n b o e) q) fun H N xs ys vs q h _ => SqT.upd1 h q)⟩
      | lst ds =>
        cases hi
        refine ⟨_, pi_list (PE.len he), go fun v H1 μ1 fp p lo => ?_⟩
        obtain ⟨a, vs, f', rfl, sq, rs, rfl⟩ := p.rep
        exact ⟨a, rfl, ⟨vs, SqL.of sq⟩, q _ H1 μ1 p.stp p.ok (begun_lies (ow := [a]) (by rw [← Reps.len _ _ _ rs]; exact lo a vs rfl (.inl (SqL.of sq))) p.ok (fun _ => walk_lst (by simp)) ⟨vs, f', sq, Reps.len _ _ _ rs, rs, p.nd, fun b m => ⟨p.new b (List.mem_append_left _ m), Reps.there _ _ _ rs b m⟩, fun b m => by
          have : b = a := by simpa using m
          subst this; exact ⟨_, sq⟩⟩ (fun H N vs q n => Same.upd n _ _ q) fun H N xs ys vs q h n => by
          rw [upd_ne (fun e => n (by rw [e]; simp))]; exact q)⟩
      | fz ds =>
        cases hi
        refine ⟨_, pi_list (PE.len he), go fun v H1 μ1 fp p lo => ?_⟩
        obtain ⟨a, vs, rfl, sq, rs, rfl⟩ := p.rep
        exact ⟨a, rfl, ⟨vs, sq.sq⟩, q _ H1 μ1 p.stp p.ok (begun_lies (ow := []) (by rw [← Reps.len _ _ _ rs]; exact lo a vs rfl (.inl sq.sq)) p.ok (fun _ => walk_fz) ⟨vs, [], sq, Reps.len _ _ _ rs, rs, by simpa using p.ok.nd, by simp, by simp⟩ (fun H N vs q n => FzAt.keep Same.k0 (fun b o e _ => Same.upd n b o e) q) fun H N xs ys vs q h _ => FzAt.upd1 h q)⟩
      | str z =>
        have hi' : (if z.length ≤ 16777216 then some (z.cps.toList.map fun c => D.str ⟨#[c]⟩, (none : Option (Nat × List D))) else none) = some (its, lk) := hi
        split at hi'
        case isFalse => cases hi'
        rename_i hz
        cases hi'
        refine ⟨_, pi_str he, go fun v H1 μ1 fp p => ?_⟩
        obtain ⟨rfl, rfl⟩ := p.rep
        exact ⟨z, rfl, q _ H1 μ1 p.stp p.ok (begun_any (by rw [List.length_map]; exact hz) walk_str trivial (fun _ _ => trivial) fun _ _ _ _ _ _ _ _ _ => trivial)⟩
      | ref n =>
        have hi' : (match S1[n]? with | some (.lst ds) => some (ds, some (n, ds)) | _ => none) = some (its, lk) := hi
        split at hi'
        · rename_i ds hS
          cases hi'
          refine ⟨_, pi_list (PE.len he), go fun v H1 μ1 fp p lo => ?_⟩
          obtain ⟨a, rfl, hm', rfl⟩ := p.rep
          obtain ⟨vs, sq, rs⟩ := p.ok.at_ n _ a hS hm'
          exact ⟨a, rfl, ⟨vs, SqL.of sq⟩, q _ H1 μ1 p.stp p.ok (begun_any (by rw [← Reps.len _ _ _ rs]; exact lo a vs rfl (.inl (SqL.of sq))) walk_ref hm' (fun _ _ => hm') fun _ _ _ _ _ _ g _ _ => g)⟩
        · cases hi'
      | _ => cases hi
theorem pi_rng1 {e : PE} {x : Expr} {p pos : Pos} (hg : Gl X "range") (hm : X.mg "range" = none) (hx : noStar x = true) (ha : PA X [x] (tEvs (tOf X C) W g [e])) : PI X tg (.Call (.Name "range" p) [x] [] pos) (tIt (tOf X C) W g .rng1 [e]) := by
  have base := pi_range1 (tg := tg) (p := p) (pos := pos) hg hm ha (star_of (es := []) hx)
  refine PI.dep fun σ H R ⟨ρ, S, μ, env, st, h⟩ => ⟨_, base, evse env st h fun ds S1 vs H1 μ1 fp e1 p ⟨its, lk, hi, q⟩ => ?_⟩
  match ds, hi with
  | [.int j], hi =>
    have hi' : (if decide (j ≤ 1000000) && decide (-1000000 ≤ j) then some ((List.range j.toNat).map fun (k : Nat) => D.int k, (none : Option (Nat × List D))) else none) = some (its, lk) := hi
    split at hi'
    · rename_i hj
      cases hi'
      simp only [Bool.and_eq_true, decide_eq_true_eq] at hj
      obtain ⟨v, rfl, rfl, rfl⟩ := Reps.one p.rep
      refine ⟨j, rfl, by omega, by omega, q _ H1 μ1 p.stp p.ok (begun_any (G := fun _ _ _ => True) (by rw [List.length_map, List.length_range, sizeLine_eq]; omega) ?_ trivial (fun _ _ => trivial) fun _ _ _ _ _ _ _ _ _ => trivial)⟩
      have w := walk_rng (T := tOf X C) (P := Nw H H1) (lo := 0) (n := j.toNat)
      simpa using w
    · cases hi'
theorem pi_rng2 {e e' : PE} {x x' : Expr} {p pos : Pos} (hg : Gl X "range") (hm : X.mg "range" = none) (hx : noStar x = true) (hx' : noStar x' = true) (ha : PA X [x, x'] (tEvs (tOf X C) W g [e, e'])) : PI X tg (.Call (.Name "range" p) [x, x'] [] pos) (tIt (tOf X C) W g .rng2 [e, e']) := by
  have base := pi_range2 (tg := tg) (p := p) (pos := pos) hg hm ha (by rw [star_of (es := [x']) hx, star_of (es := []) hx']; rfl) (star_of (es := []) hx')
  refine PI.dep fun σ H R ⟨ρ, S, μ, env, st, h⟩ => ⟨_, base, evse env st h fun ds S1 vs H1 μ1 fp e1 p ⟨its, lk, hi, q⟩ => ?_⟩
  match ds, hi with
  | [.int i, .int j], hi =>
    have hi' : (if decide (j ≤ 1000000) && decide (-1000000 ≤ j) && decide (i ≤ 1000000) && decide (-1000000 ≤ i) then some ((List.range (j - i).toNat).map fun (k : Nat) => D.int (i + k), (none : Option (Nat × List D))) else none) = some (its, lk) := hi
    split at hi'
    · rename_i hj
      cases hi'
      simp only [Bool.and_eq_true, decide_eq_true_eq] at hj
      obtain ⟨u, v, f1, f2, rfl, ⟨rfl, rfl⟩, ⟨rfl, rfl⟩, rfl⟩ := Reps.two p.rep
      exact ⟨i, j, rfl, ⟨by omega, by omega, by omega, by omega⟩, q _ H1 μ1 p.stp p.ok (begun_any (by rw [List.length_map, List.length_range, sizeLine_eq]; omega) walk_rng trivial (fun _ _ => trivial) fun _ _ _ _ _ _ _ _ _ => trivial)⟩
    · cases hi'
theorem pi_zipD {e e' : PE} {x x' : Expr} {p pos tpos : Pos} {elts : List Expr} {kk : Nat} (hg : Gl X "zip") (hm : X.mg "zip" = none) (hx : noStar x = true) (hx' : noStar x' = true) (ha : PA X [x, x'] (tEvs (tOf X C) W g [e, e'])) :
    PI X (.Tuple elts kk tpos) (.Call (.Name "zip" p) [x, x'] [] pos) (tIt (tOf X C) W g .zip [e, e']) := by
  have base := RZ.pi_zipA (elts := elts) (kk := kk) (tpos := tpos) (p := p) (pos := pos) hg hm (PA.len ha) (star_of (es := [x']) hx) (stars_none (es := [x']) (by simpa using hx'))
  refine PI.dep fun σ H R ⟨ρ, S, μ, env, st, h⟩ => ⟨_, base, evse env st h fun ds S1 vs H1 μ1 fp e1 p ⟨its, lk, hi, q⟩ lo => ?_⟩
  match ds, hi with
  | [.tup as, .tup bs], hi =>
    have hi' : (if settleds as && settleds bs then some (as.zipWith (fun x y => D.tup [x, y]) bs, (none : Option (Nat × List D))) else none) = some (its, lk) := hi
    split at hi'
    · rename_i hj
      cases hi'
      obtain ⟨j1, j2⟩ := Bool.and_eq_true_iff.mp hj
      obtain ⟨u, v, f1, f2, rfl, ⟨a, xs, rfl, sq1, r1⟩, ⟨b, ys, rfl, sq2, r2⟩, rfl⟩ := Reps.two p.rep
      have z1 := Reps.settled _ _ _ r1 j1
      have z2 := Reps.settled _ _ _ r2 j2
      subst z1; subst z2
      exact ⟨a, b, xs, ys, rfl, .inr ⟨sq1, sq2, q _ H1 μ1 p.stp p.ok (begun_any (by
        rw [List.length_zipWith]
        have := lo _ a xs rfl (.inr sq1)
        rw [Reps.len _ _ _ r1] at this
        omega) (walk_zip rfl) ⟨xs, ys, sq1, sq2, r1, r2⟩ (fun N n => ⟨xs, ys, SqT.keep Same.k0 (fun b o e _ => Same.upd n b o e) sq1, SqT.keep Same.k0 (fun b o e _ => Same.upd n b o e) sq2, Reps.same (Same.upd n) _ _ _ r1, Reps.same (Same.upd n) _ _ _ r2⟩)
        fun i H μ N xs' ys' ⟨xs, ys, q1, q2, r1, r2⟩ _ hN => ⟨xs, ys, SqT.upd1 hN q1, SqT.upd1 hN q2, Reps.upd1 hN r1 (by simp), Reps.upd1 hN r2 (by simp)⟩)⟩⟩
    · cases hi'
end
end Ev
end
section
set_option Elab.async false
set_option linter.all false
set_option maxRecDepth 100000
namespace Ev
open PySem PySem.Spec PyProof.Rows L2 PySem.SeqAt
/-- the calls of a def, as a promise -/
def spF (T : Pgm) (F : List D → Sto → Option (R D)) : Sp := fun vs H Q E => ∃ ds S μ fp, Reps T H μ ds vs fp ∧ StOk T H μ S ∧ (μ ++ fp).Nodup ∧ match F ds S with
  | some (.ok d S') => OutM T H μ fp S' d Q
  | some (.ex c S') => ∀ H' μ', StpO fp H μ H' μ' → StOk T H' μ' S' → E (.ref (T.C c)) none H'
  | none => False
def bNm : Blt → Str
  | .len => "len"
  | .abs => "abs"
  | .min2 => "min"
  | .max2 => "max"
  | .maxL => "max"
  | .minL => "min"
  | .sum => "sum"
  | .sorted => "sorted"
  | .tuple => "tuple"
  | .list => "list"
  | .int => "int"
  | .str => "str"
def bltNames : List Str := ["len", "abs", "min", "max", "sum", "sorted", "tuple", "list", "int", "str", "isinstance", "range", "zip", "dict", "bool", "ValueError", "enumerate"]
def tyNm : Ty → Str
  | .int => "int"
  | .str => "str"
  | .tuple => "tuple"
  | .list => "list"
  | .dict => "dict"
  | .bool => "bool"
  | .valueError => "ValueError"
  | .cls _ => ""
theorem boot_b (b : Blt) : bootBuiltins (bNm b) = some (bId b) := by cases b <;> decide +kernel
theorem bNm_mem (b : Blt) : bNm b ∈ bltNames := by cases b <;> decide +kernel
theorem bNm_nm (b : Blt) : bNm b ≠ "__name__" := by cases b <;> decide +kernel
theorem bNm_db (b : Blt) : (bNm b == ("__debug__" : Str)) = false := by cases b <;> decide +kernel
def tyBi : Ty → String
  | .int => "int"
  | .str => "str"
  | .tuple => "tuple"
  | .list => "list"
  | .dict => "dict"
  | .bool => "bool"
  | .valueError => "ValueError"
  | .cls _ => "int"
theorem boot_ty0 (t : Ty) (h : ∀ c, t ≠ .cls c) : bootBuiltins (tyNm t) = some (.type (tyBi t)) ∧ tyNm t ∈ bltNames ∧ tyNm t ≠ "__name__" ∧ (tyNm t == ("__debug__" : Str)) = false := by
  cases t with
  | cls c => exact absurd rfl (h c)
  | _ => exact ⟨by decide +kernel, by decide +kernel, by decide +kernel, by decide +kernel⟩
theorem boot_ty (C : Nat → Addr) (t : Ty) (h : ∀ c, t ≠ .cls c) : bootBuiltins (tyNm t) = some (clsU C t) ∧ RelV (clsV C t) (clsU C t) ∧ tyNm t ∈ bltNames ∧ tyNm t ≠ "__name__" ∧ (tyNm t == ("__debug__" : Str)) = false := by
  obtain ⟨h1, h2⟩ := boot_ty0 t h
  cases t with
  | cls c => exact absurd rfl (h c)
  | _ => exact ⟨h1, rfl, h2⟩
def scalV : D → V → Prop
  | .non, v => v = .non
  | .bl b, v => v = .bl b
  | .int i, v => v = .int i
  | .str x, v => v = .str x
  | _, _ => False
theorem scalV.rep {T : Pgm} {H : Hp} {μ : List Addr} {d : D} {v : V} (h : scalV d v) : Rep T H μ d v [] := by
  cases d with
  | non => exact ⟨h, rfl⟩
  | bl b => exact ⟨h, rfl⟩
  | int b => exact ⟨h, rfl⟩
  | str b => exact ⟨h, rfl⟩
  | _ => exact h.elim
structure ScOk (sc sc' : Scope) : Prop where
  look : ∀ x k, sc.names.lookup x = some k → ∃ k', sc'.names.lookup x = some k' ∧ (k' = k ∨ (k = .free ∧ k' = .cell))
theorem ScOk.vis {sc sc' : Scope} (h : ScOk sc sc') {x : Str} (v : Ev.vis sc x = true) : Vis sc' x := by
  rcases vis_ok v with e | e | e <;> obtain ⟨k', h1, h2⟩ := h.look x _ e
  · rcases h2 with rfl | ⟨z, _⟩
    · exact .inl h1
    · cases z
  · rcases h2 with rfl | ⟨z, _⟩
    · exact .inr (.inl h1)
    · cases z
  · rcases h2 with rfl | ⟨_, rfl⟩
    · exact .inr (.inr h1)
    · exact .inr (.inl h1)
theorem ScOk.refl (sc : Scope) : ScOk sc sc := ⟨fun x k h => ⟨k, h, .inl rfl⟩⟩
def loc (sc : Scope) (x : Str) : Bool := match sc.names.lookup x with
  | some .local => true
  | some .cell => true
  | _ => false
theorem loc_ok {sc : Scope} {x : Str} (h : loc sc x = true) : sc.names.lookup x = some .local ∨ sc.names.lookup x = some .cell := by
  unfold loc at h
  split at h
  · exact .inl (by assumption)
  · exact .inr (by assumption)
  · cases h
theorem ScOk.loc {sc sc' : Scope} (h : ScOk sc sc') {x : Str} (v : Ev.loc sc x = true) : Loc sc' x := by
  rcases loc_ok v with e | e <;> obtain ⟨k', h1, h2⟩ := h.look x _ e
  · rcases h2 with rfl | ⟨z, _⟩
    · exact .inl h1
    · cases z
  · rcases h2 with rfl | ⟨z, _⟩
    · exact .inr h1
    · cases z
/-! ### errors with or without a context: m says that it is None -/
def Zm : Bool → Value → Option Addr → Obj → Prop
  | true => L2N.Zn
  | false => L2.Zc
theorem Zm.steady {m : Bool} {c : Value} {d : Option Addr} : PXN.Steady1 (Zm m c d) := by
  cases m with
  | true => exact L2N.Zn.steady
  | false => exact fun o v h => Zc.steady o _ h
def XZ (m : Bool) (X : Cx) (W : WX) (u : Value) (s' : Shared) : Prop :=
  ∃ (a : Addr) (B : Heap) (sI : Shared) (pins : List (Addr × Obj)) (σ : L2.St) (H : Hp) (cls : Value) (d : Option Addr),
    u = .ref a ∧ Inv X pins σ H sI ∧ (∀ b o, sI.heap.get? b = some o → b ∉ frs X.stack → B.get? b = some o) ∧ sI.heap.UpToSlots s'.heap ∧ Sky B X.stack a (Zm m cls d) X.env.locals s'.heap ∧ H a = none ∧ s'.os = sI.os ∧ AllBare s'.gens ∧ W cls d σ H
def Tk (m : Bool) (X : Cx) (W : WX) : Prop := ∀ u s', XZ m X W u s' → X.xe u s'
def CXm (m : Bool) (P : Program) (w : World) : CXT := match m with
  | true => L2N.CX P w
  | false => L2.CX P w
theorem Tk.zc {X : Cx} {W : WX} (h : Tk false X W) : L2.Takes X W := h
theorem Tk.zn {X : Cx} {W : WX} (h : Tk true X W) : L2N.Takes X W := h
theorem Tk.of0 {m : Bool} {X : Cx} : Tk m X (fun _ _ _ _ => False) := fun u s' ⟨_, _, _, _, _, _, _, _, _, _, _, _, _, _, _, _, z⟩ => z.elim
/-- the frame is a def's own -/
structure Own (X : Cx) : Prop where
  hs : X.stack = X.env :: X.outer
  hf : X.env.frame = some X.env.locals
  hex : X.ex = []
/-- where one stands: n the room, W what is wished of exceptions -/
structure Good (C : Nat → Addr) (W : WX) (n : Nat) (g : G) (cc : CC) (X : Cx) : Prop where
  calm : X.calm = true
  room : Room n X.A
  tk : Tk cc.md X W
  hN : X.N = cc.N
  nd : cc.N.Nodup
  sc : ScOk cc.sc X.env.scope
  fn : ∀ x, Ev.loc cc.sc x = true → X.fn x = true ∨ X.env.scope.names.lookup x = some .local
  ec : ExcK X.K C g.isa
  funs : ∀ (f : Nat) (x : Str), cc.fnames[f]? = some x → ∃ addr fd ps, X.mg x = some (.ref addr) ∧ PySem.W.keepIn X.K (.ref addr) = true ∧ Binds X.K fd ps [] ∧ FnOk X.prog X.w X.K X.mg X.base (CXm cc.md X.prog X.w) n addr fd ps (spF (tOf X C) (g.F f))
  funsN : ∀ (f : Nat) (x : Str), f < cc.nq → cc.fnames[f]? = some x → ∃ addr fd ps, X.mg x = some (.ref addr) ∧ PySem.W.keepIn X.K (.ref addr) = true ∧ Binds X.K fd ps [] ∧ FnOk X.prog X.w X.K X.mg X.base (CXm true X.prog X.w) n addr fd ps (spF (tOf X C) (g.F f))
  own : cc.top = true → Own X
  cls : ∀ (c : Nat) (x : Str), cc.cnames[c]? = some x → X.mg x = some (.ref (C c)) ∧ ∀ c', C c' ≠ 0
  con : ∀ (x : Str) (d : D), cc.consts.lookup x = some d → ∃ u v, X.mg x = some u ∧ RelV v u ∧ scalV d v
  free : ∀ x ∈ bltNames, X.mg x = none
theorem relabel_lk {env : PySem.Env} : ∀ {names : List (Str × NameKind)} {x : Str} {k : NameKind}, names.lookup x = some k →
    ∃ k', (names.map fun (n, k) => if (k == NameKind.free && env.scope.kind == .function && env.kindOf n == some .cell) then (n, NameKind.cell) else (n, k)).lookup x = some k' ∧ (k' = k ∨ (k = .free ∧ k' = .cell))
  | [], _, _, h => by simp at h
  | (m, k0) :: r, x, k, h => by
    rw [List.lookup_cons] at h
    show ∃ k', List.lookup x ((if (k0 == NameKind.free && env.scope.kind == .function && env.kindOf m == some .cell) = true then (m, NameKind.cell) else (m, k0)) :: _) = some k' ∧ _
    by_cases e : (x == m) = true
    · rw [e] at h
      cases h
      by_cases hc : (k0 == NameKind.free && env.scope.kind == .function && env.kindOf m == some .cell) = true
      · rw [if_pos hc]
        refine ⟨.cell, by rw [List.lookup_cons, e], .inr ⟨?_, rfl⟩⟩
        simp only [Bool.and_eq_true, beq_iff_eq] at hc
        exact hc.1.1
      · rw [if_neg hc]
        exact ⟨k0, by rw [List.lookup_cons, e], .inl rfl⟩
    · have e' : (x == m) = false := by simpa using e
      rw [e'] at h
      obtain ⟨k', h1, h2⟩ := relabel_lk (env := env) h
      refine ⟨k', ?_, h2⟩
      by_cases hc : (k0 == NameKind.free && env.scope.kind == .function && env.kindOf m == some .cell) = true
      · rw [if_pos hc, List.lookup_cons, e']; exact h1
      · rw [if_neg hc, List.lookup_cons, e']; exact h1
/-- in the block of a comprehension -/
theorem Good.blk {C : Nat → Addr} {W : WX} {n : Nat} {g : G} {cc : CC} {X : Cx} (G : Good C W n g cc X) (scope : Scope) (s : Shared) (H : Hp) (A : Addr) (cl : List (Str × Addr)) (fp : List Addr) :
    Good C (fun _ _ _ _ => False) n g { cc with sc := scope, top := false } (X.blk s H scope (compEnvC scope cl A X.env) fp) := by
  refine ⟨G.calm, G.room, Tk.of0, G.hN, G.nd, ⟨fun x k h => relabel_lk h⟩, fun x h => ?_, G.ec, G.funs, G.funsN, (fun z => nomatch z), G.cls, G.con, G.free⟩
  rcases loc_ok h with e | e
  · obtain ⟨k', h1, h2⟩ := relabel_lk (env := X.env) e
    rcases h2 with rfl | ⟨z, _⟩
    · exact .inr h1
    · cases z
  · left
    show (scope.names.lookup x == some .cell) = true
    rw [e]; rfl
theorem Good.gl {C : Nat → Addr} {W : WX} {n : Nat} {g : G} {cc : CC} {X : Cx} (G : Good C W n g cc X) {x : Str} (h : glob cc.sc x = true) : Gl X x ∧ (x == ("__debug__" : Str)) = false ∧ x ≠ "__name__" := by
  unfold glob at h
  simp only [Bool.and_eq_true, decide_eq_true_eq] at h
  obtain ⟨⟨h1, h2⟩, h3⟩ := h
  obtain ⟨k', e1, e2⟩ := G.sc.look x _ h1
  refine ⟨?_, beq_eq_false_iff_ne.mpr h2, h3⟩
  rcases e2 with rfl | ⟨z, _⟩
  · exact e1
  · cases z
theorem Good.units {C : Nat → Addr} {W : WX} {n : Nat} {g : G} {cc : CC} {X : Cx} (G : Good C W n g cc X) : X.A.units + 200 < cLine := by
  have := G.room.un; omega
/-! ### targets -/
def chkNm (cc : CC) (i : Nat) : Expr → Bool
  | .Name y _ => decide (cc.N[i]? = some y) && loc cc.sc y
  | _ => false
def chkTg (cc : CC) : Tg → Expr → Bool
  | .nm i, x => chkNm cc i x
  | .tp is, .Tuple xs _ _ => all2 (chkNm cc) is xs && decide is.Nodup
  | _, _ => false
def tgIs : Tg → List Nat
  | .nm i => [i]
  | .tp is => is
/-- a target is given what v stands for -/
def gTg (T : Pgm) : Tg → TG
  | .nm i => gName i
  | .tp is => fun v σ H Q => ∃ a xs, v = .ref a ∧ SqT T.K H a xs ∧ xs.length = is.length ∧ Q ((is.zip xs).foldl (fun σ p => σ.set p.1 (some p.2)) σ) H
section
variable {C : Nat → Addr} {W : WX} {n : Nat} {g : G} {cc : CC} {X : Cx}
theorem pg_nm (G : Good C W n g cc X) {i : Nat} {x : Expr} (h : chkNm cc i x = true) : PG X x (gName i) := by
  cases x with
  | Name y p =>
    obtain ⟨h1, h2⟩ := Bool.and_eq_true_iff.mp (show (decide (cc.N[i]? = some y) && loc cc.sc y) = true from h)
    have h1' : X.N[i]? = some y := by rw [G.hN]; exact of_decide_eq_true h1
    exact pg_name (by rw [G.hN]; exact G.nd) h1' (G.sc.loc h2) (G.fn y h2)
  | _ => cases h
def gAll : List Nat → TGs
  | [] => gNil
  | i :: is => gCons (gName i) (gAll is)
theorem gAll_of (is : List Nat) (xs : List V) (σ : L2.St) (H : Hp) (Q : L2.St → Hp → Prop) (hl : xs.length = is.length) (q : Q ((is.zip xs).foldl (fun σ p => σ.set p.1 (some p.2)) σ) H) : gAll is xs σ H Q := by
  induction is generalizing xs σ with
  | nil =>
    cases xs with
    | nil => exact ⟨rfl, q⟩
    | cons x r => cases hl
  | cons i is ih =>
    cases xs with
    | nil => cases hl
    | cons x r => exact ⟨x, r, rfl, ih r _ (by simpa using hl) q⟩
theorem pgs_nms (G : Good C W n g cc X) : ∀ (is : List Nat) (xs : List Expr), all2 (chkNm cc) is xs = true → PGs X xs (gAll is) ∧ (assignEach xs X.env).length = is.length ∧ (assignEach xs X.env).findIdx? (·.1) = none
  | [], [], _ => ⟨pgs_nil, rfl, rfl⟩
  | [], _ :: _, h => by cases h
  | _ :: _, [], h => by cases h
  | i :: is, x :: xs, h => by
    obtain ⟨h1, h2⟩ := Bool.and_eq_true_iff.mp (show (chkNm cc i x && all2 (chkNm cc) is xs) = true from h)
    obtain ⟨a1, a2, a3⟩ := pgs_nms G is xs h2
    have hx := pg_nm G h1
    cases x with
    | Name y p =>
      refine ⟨pgs_cons hx a1 rfl, ?_, ?_⟩
      · show (assignEach xs X.env).length + 1 = is.length + 1
        rw [a2]
      · show List.findIdx? (·.1) ((false, _) :: assignEach xs X.env) = none
        rw [List.findIdx?_cons, a3]; rfl
    | _ => cases h1
theorem pg_tg (G : Good C W n g cc X) {tg : Tg} {x : Expr} (h : chkTg cc tg x = true) : PG X x (gTg (tOf X C) tg) := by
  cases tg with
  | nm i => exact pg_nm G h
  | tp is =>
    cases x with
    | Tuple xs k p =>
      obtain ⟨h1, h2⟩ := Bool.and_eq_true_iff.mp (show (all2 (chkNm cc) is xs && decide is.Nodup) = true from h)
      obtain ⟨a1, a2, a3⟩ := pgs_nms G is xs h1
      have base := pg_tup (k := k) (pos := p) G.calm a1 a2 a3
      refine ⟨fun pins s σ H v u Q I r hw => base.run pins s σ H v u Q I r ?_⟩
      obtain ⟨a, ys, rfl, q1, q2, q3⟩ := hw
      exact ⟨a, ys, rfl, q1, q2, gAll_of is ys σ H Q q2 q3⟩
    | _ => cases h
end
/-! ### slots -/
section
variable {T : Pgm} {H : Hp} {μ : List Addr} {σ : Slots} {ρ : Env}
theorem EnvOk.set {i : Nat} {d : D} {v : V} (h : EnvOk T H μ σ ρ) (r : Rep T H μ d v []) : EnvOk T H μ (σ.set i (some v)) (ρ.set i (some d)) := by
  refine ⟨by simp [h.1], fun j x e => ?_⟩
  by_cases hj : i = j
  · subst hj
    have hl : i < ρ.length := by
      have := (List.getElem?_eq_some_iff.mp e).1
      simpa using this
    rw [List.getElem?_set_self hl] at e
    cases e
    exact ⟨v, by rw [List.getElem?_set_self (by rw [h.1]; exact hl)], r⟩
  · rw [List.getElem?_set_ne hj] at e
    obtain ⟨w, e1, r1⟩ := h.2 j x e
    exact ⟨w, by rw [List.getElem?_set_ne hj]; exact e1, r1⟩
theorem EnvOk.drop {i : Nat} (h : EnvOk T H μ σ ρ) : EnvOk T H μ (σ.set i none) (ρ.set i none) := by
  refine ⟨by simp [h.1], fun j x e => ?_⟩
  by_cases hj : i = j
  · subst hj
    have hl : i < ρ.length := by
      have := (List.getElem?_eq_some_iff.mp e).1
      simpa using this
    rw [List.getElem?_set_self hl] at e
    cases e
  · rw [List.getElem?_set_ne hj] at e
    obtain ⟨w, e1, r1⟩ := h.2 j x e
    exact ⟨w, by rw [List.getElem?_set_ne hj]; exact e1, r1⟩
theorem EnvOk.names : ∀ (is : List Nat) (ds : List D) (vs : List V) (σ : Slots) (ρ ρ' : Env), EnvOk T H μ σ ρ → Reps T H μ ds vs [] → setNames is ds ρ = some ρ' → vs.length = is.length ∧ EnvOk T H μ ((is.zip vs).foldl (fun σ p => σ.set p.1 (some p.2)) σ) ρ'
  | [], [], vs, σ, ρ, ρ', h, r, e => by
    obtain ⟨rfl, _⟩ := r
    cases e; exact ⟨rfl, h⟩
  | [], _ :: _, _, _, _, _, _, _, e => by cases e
  | _ :: _, [], _, _, _, _, _, _, e => by cases e
  | i :: is, d :: ds, vs, σ, ρ, ρ', h, r, e => by
    obtain ⟨v, w, f1, f2, rfl, r1, r2, ef⟩ := r
    obtain ⟨rfl, rfl⟩ := List.append_eq_nil_iff.mp ef.symm
    obtain ⟨a1, a2⟩ := EnvOk.names is ds w (σ.set i (some v)) (ρ.set i (some d)) ρ' (h.set r1) r2 e
    exact ⟨by rw [List.length_cons, List.length_cons, a1], a2⟩
/-- a target is given a value -/
theorem setTg_ok {tg : Tg} {d : D} {v : V} {fp : List Addr} {S S' : Sto} {ρ' : Env} {Q : L2.St → Hp → Prop} (env : EnvOk T H μ σ ρ) (ok : StOk T H μ S) (r : Rep T H μ d v fp) (nd : (μ ++ fp).Nodup) (e : setTg tg d ρ S = some (ρ', S'))
    (q : ∀ σ', EnvOk T H (μ ++ fp) σ' ρ' → StOk T H (μ ++ fp) S' → (∀ vs : List Nat, (∀ i ∈ tgIs tg, i ∈ vs) → wipe σ' vs = wipe σ vs) → Q σ' H) : gTg T tg v σ H Q := by
  have env' : EnvOk T H (μ ++ fp) σ ρ := ⟨env.1, fun i x h => by
    obtain ⟨w, h1, h2⟩ := env.2 i x h
    exact ⟨w, h1, Rep.widen (Rep.kinds d v fp r) _ _ _ h2⟩⟩
  have wp : ∀ (σ : L2.St) (i : Nat) (x : Option V) (vs : List Nat), i ∈ vs → wipe (σ.set i x) vs = wipe σ vs := fun σ i x vs => by
    induction vs with
    | nil => intro h; cases h
    | cons j vs ih =>
      intro h
      unfold wipe
      by_cases hj : i ∈ vs
      · rw [ih hj]
      · have hij : i = j := (List.mem_cons.mp h).resolve_right hj
        subst hij
        have comm : ∀ (vs : List Nat) (σ : L2.St), i ∉ vs → wipe (σ.set i x) vs = (wipe σ vs).set i x := fun vs => by
          induction vs with
          | nil => intro σ _; rfl
          | cons k vs ihv =>
            intro σ hk
            unfold wipe
            have h1 : i ≠ k := fun e => hk (by rw [e]; exact List.mem_cons_self)
            rw [ihv σ fun m => hk (List.mem_cons_of_mem _ m), List.set_comm _ _ h1]
        rw [comm vs σ hj, List.set_set]
  cases tg with
  | nm i =>
    obtain ⟨h1, h2⟩ := settle_ok d v fp μ S r ok nd
    cases e
    exact q _ (env'.set h1) h2 fun vs h => wp σ i _ vs (h i (by simp [tgIs]))
  | tp is =>
    cases d with
    | tup ds =>
      obtain ⟨a, vs, rfl, sq, rs⟩ := r
      obtain ⟨h1, h2⟩ := settles_ok ds vs fp μ S rs ok nd
      obtain ⟨ρ1, e1, e2⟩ := Option.map_eq_some_iff.mp (show (setNames is (settles ds S).1 ρ).map (fun ρ' => (ρ', (settles ds S).2)) = some (ρ', S') from e)
      cases e2
      obtain ⟨b1, b2⟩ := EnvOk.names is _ vs σ ρ _ env' h1 e1
      refine ⟨a, vs, rfl, sq, b1, q _ b2 h2 fun ws h => ?_⟩
      have fold : ∀ (l : List (Nat × V)) (σ : L2.St), (∀ p ∈ l, p.1 ∈ ws) → wipe (l.foldl (fun σ p => σ.set p.1 (some p.2)) σ) ws = wipe σ ws := fun l => by
        induction l with
        | nil => intro σ _; rfl
        | cons p l ihl =>
          intro σ hp
          rw [List.foldl_cons, ihl _ fun p m => hp p (List.mem_cons_of_mem _ m), wp σ _ _ _ (hp p List.mem_cons_self)]
      exact fold _ σ fun p m => h p.1 (List.of_mem_zip m).1
    | _ => cases e
end
end Ev
end
section
set_option Elab.async false
set_option linter.all false
set_option maxRecDepth 100000
namespace Ev
open PySem PySem.Spec PyProof.Rows L2 PySem.SeqAt
/-! ### does the text say that -/
def cstOk : D → Const → Bool
  | .non, .none => true
  | .bl a, .bool b => a == b
  | .int a, .int b => decide (a = b)
  | .str a, .str b => decide (a = b)
  | _, _ => false
def scEq : D → D → Bool
  | .non, .non => true
  | .bl a, .bl b => a == b
  | .int a, .int b => decide (a = b)
  | .str a, .str b => decide (a = b)
  | _, _ => false
theorem scEq_ok {a b : D} (h : scEq a b = true) : a = b := by
  cases a <;> cases b <;> first
    | rfl
    | cases h
    | (have h' := eq_of_beq h; rw [h'])
    | (have h' := of_decide_eq_true h; rw [h'])
def noSlice : Expr → Bool
  | .Slice _ _ _ _ => false
  | _ => true
def noSet : Expr → Bool
  | .Set _ _ _ => false
  | _ => true
def noCall0 : Expr → Bool
  | .Call (.Name _ _) [] [] _ => false
  | _ => true
theorem plain_ix {b : Expr} (h : noSlice b = true) : PlainIx b := fun o i => by
  cases b <;> first | rfl | cases h
theorem no_mark {op : CmpOp} {b : Expr} (h : noSet b = true) : behindInMarks op b = false := by
  cases b <;> first | rfl | cases h
theorem folded {e : Expr} {env : PySem.Env} (h : noSet e = true) : ∀ x, foldedSetIterable e env x = pure x := fun x => by
  cases e <;> first | rfl | cases h
theorem attr_base {o : Expr} {a : Str} {env : PySem.Env} (h : noCall0 o = true) : attributeBase o a env (eval o env) = eval o env := by
  unfold attributeBase
  split
  · cases h
  · rfl
def chkTy (cc : CC) (t : Ty) : Expr → Bool
  | .Name x _ => glob cc.sc x && (match t with | .cls c => decide (cc.cnames[c]? = some x) | t => decide (x = tyNm t))
  | _ => false
def chkTs (cc : CC) : List Ty → Expr → Bool
  | ts, .Tuple xs _ _ => !ts.isEmpty && all2 (chkTy cc) ts xs && decide (xs.length ≤ 1000)
  | [t], x => chkTy cc t x
  | _, _ => false
def ownOf : Tg → Expr → List (Str × Nat)
  | .nm i, .Name x _ => [(x, i)]
  | .tp is, .Tuple xs _ _ => (xs.zip is).filterMap fun p => match p.1 with | .Name x _ => some (x, p.2) | _ => none
  | _, _ => []
def isTupT : Expr → Bool
  | .Tuple _ _ _ => true
  | _ => false
def chkE : Nat → CC → PE → Expr → Bool
  | 0, _, _, _ => false
  | n + 1, cc, .var i, .Name x _ => decide (cc.N[i]? = some x) && vis cc.sc x && decide (x ≠ "__debug__") && decide (x ≠ "__classdict__")
  | n + 1, cc, .cst d, .Constant c _ _ => cstOk d c
  | n + 1, cc, .cst d, .Name x _ => glob cc.sc x && (match cc.consts.lookup x with | some d' => scEq d d' | none => false)
  | n + 1, cc, .tup es, .Tuple xs _ _ => all2 (chkE n cc) es xs && xs.all noStar && decide (xs.length ≤ 1000)
  | n + 1, cc, .lst es, .List xs _ => all2 (chkE n cc) es xs && xs.all noStar && decide (xs.length ≤ 1000)
  | n + 1, cc, .dct0, .Dict [] [] _ => true
  | n + 1, cc, .bin o a b, .BinOp x op y _ => decide (op = opOf o) && chkE n cc a x && chkE n cc b y
  | n + 1, cc, .neg a, .UnaryOp .USub x _ => chkE n cc a x
  | n + 1, cc, .not a, .UnaryOp .Not x _ => chkE n cc a x
  | n + 1, cc, .and a b, .BoolOp .And (x :: y :: rest) p => chkE n cc a x && (match rest with | [] => chkE n cc b y | _ => chkE n cc b (.BoolOp .And (y :: rest) p))
  | n + 1, cc, .or a b, .BoolOp .Or (x :: y :: rest) p => chkE n cc a x && (match rest with | [] => chkE n cc b y | _ => chkE n cc b (.BoolOp .Or (y :: rest) p))
  | n + 1, cc, .cmp o a b, .Compare x [op] [y] _ => decide (op = cOf o) && chkE n cc a x && chkE n cc b y && noSet y
  | n + 1, cc, .cmp2 o o' a b c, .Compare x [op, op'] [y, z] _ => decide (op = cOf o) && decide (op' = cOf o') && chkE n cc a x && chkE n cc b y && chkE n cc c z && noSet z
  | n + 1, cc, .is_ ng a c, .Compare x [op] [.Constant k _ _] _ => decide (op = if ng then .IsNot else .Is) && chkE n cc a x && cstOk c k
  | n + 1, cc, .ife c a b, .IfExp x y z _ => chkE n cc c x && chkE n cc a y && chkE n cc b z
  | n + 1, cc, .idx a i, .Subscript x y _ => chkE n cc a x && chkE n cc i y && noSlice y
  | n + 1, cc, .sl a lo hi, .Subscript x (.Slice l h none _) _ => chkE n cc a x && (match l with | some l => chkE n cc lo l | none => (match lo with | .cst .non => true | _ => false)) && (match h with | some h => chkE n cc hi h | none => (match hi with | .cst .non => true | _ => false))
  | n + 1, cc, .call f es, .Call (.Name x _) (y :: ys) [] _ => glob cc.sc x && decide (cc.fnames[f]? = some x) && all2 (chkE n cc) es (y :: ys) && (y :: ys).all noStar
  | n + 1, cc, .blt b es, .Call (.Name x _) (y :: ys) [] _ => glob cc.sc x && decide (x = bNm b) && all2 (chkE n cc) es (y :: ys) && (y :: ys).all noStar
  | n + 1, cc, .mth m o es, .Call (.Attribute x nm apos) ys [] cpos => decide (nm = mNm m) && chkE n cc o x && all2 (chkE n cc) es ys && ys.all noStar && noCall0 x && decide (ys.length < 20) && (apos.endLine == cpos.line)
  | n + 1, cc, .isi a ts, .Call (.Name x _) [y, t] [] _ => glob cc.sc x && decide (x = "isinstance") && chkE n cc a y && noStar y && noStar t && chkTs cc ts t
  | n + 1, cc, .comp tg k es ifs elt, .ListComp y [⟨tgx, iter, ifsx, 0⟩] scope _ =>
    (match k, es, iter with
      | .val, [e], x => chkE n cc e x
      | .rng1, [e], .Call (.Name nm _) [x] [] _ => decide (nm = "range") && glob cc.sc nm && chkE n cc e x && noStar x
      | .rng2, [e, e'], .Call (.Name nm _) [x, x'] [] _ => decide (nm = "range") && glob cc.sc nm && chkE n cc e x && noStar x && chkE n cc e' x' && noStar x'
      | .zip, [e, e'], .Call (.Name nm _) [x, x'] [] _ => decide (nm = "zip") && glob cc.sc nm && chkE n cc e x && noStar x && chkE n cc e' x' && noStar x' && isTupT tgx
      | _, _, _ => false) &&
    noSet iter && chkTg { cc with sc := scope, top := false } tg tgx && decide ((ownOf tg tgx).map (·.2) = tgIs tg) && blkC cc.N cc.sc scope (ownOf tg tgx) &&
    (match ifs, ifsx with | [], [] => true | [c], [cx] => chkE n { cc with sc := scope, top := false } c cx | _, _ => false) && chkE n { cc with sc := scope, top := false } elt y
  | n + 1, cc, .compX tg k es ifs elt, .ListComp y [⟨tgx, iter, ifsx, 0⟩] scope _ =>
    cc.top && (match k, es, iter with
      | .val, [e], x => chkE n cc e x
      | .rng1, [e], .Call (.Name nm _) [x] [] _ => decide (nm = "range") && glob cc.sc nm && chkE n cc e x && noStar x
      | .rng2, [e, e'], .Call (.Name nm _) [x, x'] [] _ => decide (nm = "range") && glob cc.sc nm && chkE n cc e x && noStar x && chkE n cc e' x' && noStar x'
      | .zip, [e, e'], .Call (.Name nm _) [x, x'] [] _ => decide (nm = "zip") && glob cc.sc nm && chkE n cc e x && noStar x && chkE n cc e' x' && noStar x' && isTupT tgx
      | _, _, _ => false) &&
    noSet iter && chkTg { cc with sc := scope, top := false } tg tgx && decide ((ownOf tg tgx).map (·.2) = tgIs tg) && blkC cc.N cc.sc scope (ownOf tg tgx) &&
    (match ifs, ifsx with | [], [] => true | [c], [cx] => chkE n { cc with sc := scope, top := false } c cx | _, _ => false) && chkE n { cc with sc := scope, top := false } elt y
  | _, _, _, _ => false
/-- the same of what a for walks -/
def chkI (n : Nat) (cc : CC) (k : ItK) (es : List PE) (tgx iter : Expr) : Bool := (match k, es, iter with
      | .val, [e], x => chkE n cc e x
      | .rng1, [e], .Call (.Name nm _) [x] [] _ => decide (nm = "range") && glob cc.sc nm && chkE n cc e x && noStar x
      | .rng2, [e, e'], .Call (.Name nm _) [x, x'] [] _ => decide (nm = "range") && glob cc.sc nm && chkE n cc e x && noStar x && chkE n cc e' x' && noStar x'
      | .zip, [e, e'], .Call (.Name nm _) [x, x'] [] _ => decide (nm = "zip") && glob cc.sc nm && chkE n cc e x && noStar x && chkE n cc e' x' && noStar x' && isTupT tgx
      | _, _, _ => false)
/-! ### truth -/
section
variable {T : Pgm} {H : Hp} {μ : List Addr} {S : Sto}
theorem tru_d {d : D} {v : V} {fp : List Addr} {b : Bool} (ok : StOk T H μ S) (r : Rep T H μ d v fp) (e : truth S d = some b) : TruV T.K v H b := by
  have lists : ∀ ds : List D, listOf S d = some ds → b = !ds.isEmpty → TruV T.K v H b := fun ds h1 h2 => by
    obtain ⟨a, vs, f1, rfl, sq, rs, _⟩ := list_at ok r h1
    refine .inl ⟨vs, sq, ?_⟩
    have := Reps.len _ _ _ rs
    rw [h2]
    cases vs <;> cases ds <;> first | rfl | cases this
  unfold truth at e
  split at e
  · cases e; obtain ⟨rfl, _⟩ := r; rfl
  · cases e; obtain ⟨rfl, _⟩ := r; rfl
  · cases e; obtain ⟨rfl, _⟩ := r; rfl
  · split at e
    · rename_i hl
      cases e; obtain ⟨rfl, _⟩ := r
      refine ⟨hl, ?_⟩
      rename_i x _
      by_cases h0 : x.length = 0
      · simp [h0]
      · have : ((x.length : Int) != 0) = true := by
          rw [bne_iff_ne]; omega
        rw [this]
        simp [h0]
    · cases e
  · cases e
    obtain ⟨a, vs, rfl, sq, rs⟩ := r
    refine .inr (.inl ⟨vs, sq, ?_⟩)
    have := Reps.len _ _ _ rs
    rename_i ds
    cases vs <;> cases ds <;> first | rfl | cases this
  · split at e
    · cases e
      exact lists _ (by assumption) rfl
    · cases e
end
section
variable {T : Pgm} {W : WX} {σ : Slots} {H : Hp} {μ : List Addr}
theorem Ran.test {m : Option (R D)} {Q : Bool → Sto → Prop} (h : Ran T W σ H μ (testE m) Q) : Ran T W σ H μ m fun d S => ∃ b, truth S d = some b ∧ Q b S := by
  match m, h with
  | some (.ok d S), h =>
    have h' : Ran T W σ H μ (match truth S d with | some b => some (.ok b S) | none => none) Q := h
    show ∃ b, truth S d = some b ∧ Q b S
    cases e : truth S d with
    | none => rw [e] at h'; exact h'.elim
    | some b => rw [e] at h'; exact ⟨b, rfl, h'⟩
  | some (.ex c S), h => exact h
theorem Ran.to_test {m : Option (R D)} {Q : Bool → Sto → Prop} (h : Ran T W σ H μ m fun d S => ∃ b, truth S d = some b ∧ Q b S) : Ran T W σ H μ (testE m) Q := by
  match m, h with
  | some (.ok d S), h =>
    obtain ⟨b, e, q⟩ := h
    show Ran T W σ H μ (match truth S d with | some b => some (.ok b S) | none => none) Q
    rw [e]; exact q
  | some (.ex c S), h => exact h
theorem Ran.tests {α : Type} {m : Option (R D)} {f : Bool → Sto → Option (R α)} {Q : α → Sto → Prop} (h : Ran T W σ H μ (tests m f fun c S => some (.ex c S)) Q) : Ran T W σ H μ (testE m) fun b S => Ran T W σ H μ (f b S) Q := by
  match m, h with
  | some (.ok d S), h =>
    have h' : Ran T W σ H μ (match truth S d with | some b => f b S | none => none) Q := h
    show Ran T W σ H μ (match truth S d with | some b => some (.ok b S) | none => none) _
    cases e : truth S d with
    | none => rw [e] at h'; exact h'.elim
    | some b => rw [e] at h'; exact h'
  | some (.ex c S), h => exact h
theorem evT1 {g : G} {a : PE} {ρ : Env} {S : Sto} (env : EnvOk T H μ σ ρ) (st : StOk T H μ S) {K : Bool → Sto → Prop} {Q : Bool → Hp → Prop} (h : Ran T W σ H μ (testE (evalE g a ρ S)) K)
    (f : ∀ b S1 H1 μ1, Stp H μ H1 μ1 → StOk T H1 μ1 S1 → K b S1 → Q b H1) : tEvT T W g a σ H Q :=
  ⟨ρ, S, μ, env, st, h.imp fun b S1 _ k H1 μ1 s o => f b S1 H1 μ1 s o k⟩
end
end Ev
end
section
set_option Elab.async false
set_option linter.all false
set_option maxRecDepth 100000
namespace Ev
open PySem PySem.Spec PyProof.Rows L2 PySem.SeqAt
section
variable {T : Pgm} {H H1 : Hp} {μ μ1 : List Addr} {S1 : Sto} {Q : VK} {z : D}
theorem fin_outs {ds : List D} {vs : List V} {fp : List Addr} (p : Psts T H μ ds S1 vs H1 μ1 fp) (k : Fin1 T H μ Q z S1) : Out T H1 μ1 S1 z fp Q := fun v H' fp' s r nd ow =>
  k v H' μ1 fp' ⟨p.stp.trans (Same.stp s), StOk.same s p.ok, r, nd, fun a m => (ow a m).elim (p.new a) p.stp.free⟩
theorem fin_out1 {d : D} {v0 : V} {fp : List Addr} (p : Pst T H μ d S1 v0 H1 μ1 fp) (k : Fin1 T H μ Q z S1) : Out T H1 μ1 S1 z fp Q := fun v H' fp' s r nd ow =>
  k v H' μ1 fp' ⟨p.stp.trans (Same.stp s), StOk.same s p.ok, r, nd, fun a m => (ow a m).elim (p.new a) p.stp.free⟩
theorem fin_scal {d : D} {v0 : V} {fp : List Addr} (p : Pst T H μ d S1 v0 H1 μ1 fp) (k : Fin1 T H μ Q z S1) {v : V} (r : Rep T H1 μ1 z v []) : Q v H1 := k v H1 μ1 [] (Pst.flat p.stp p.ok r)
theorem fin_scals {ds : List D} {vs : List V} {fp : List Addr} (p : Psts T H μ ds S1 vs H1 μ1 fp) (k : Fin1 T H μ Q z S1) {v : V} (r : Rep T H1 μ1 z v []) : Q v H1 := k v H1 μ1 [] (Pst.flat p.stp p.ok r)
end
theorem evalEs_len {g : G} : ∀ (es : List PE) (ρ : Env) (S : Sto) (ds : List D) (S1 : Sto), evalEs g es ρ S = some (.ok ds S1) → ds.length = es.length
  | [], ρ, S, ds, S1, h => by
    unfold evalEs at h
    cases h; rfl
  | e :: es, ρ, S, ds, S1, h => by
    unfold evalEs at h
    cases h1 : evalE g e ρ S with
    | none => rw [h1] at h; cases h
    | some r =>
      cases r with
      | ex c S' => rw [h1] at h; cases h
      | ok d S' =>
        rw [h1, bnd_ok] at h
        cases h2 : evalEs g es ρ S' with
        | none => rw [h2] at h; cases h
        | some r =>
          cases r with
          | ex c S'' => rw [h2] at h; cases h
          | ok ds' S'' =>
            rw [h2, bnd_ok] at h
            cases h
            rw [List.length_cons, List.length_cons, evalEs_len es ρ S' ds' _ h2]
section
variable {X : Cx} {C : Nat → Addr} {W : WX} {n : Nat} {g : G} {cc : CC}
theorem s_var {i : Nat} {x : Str} {p : Pos} (h1 : X.N[i]? = some x) (h2 : Vis X.env.scope x) (h3 : (x == ("__debug__" : Str)) = false) (h4 : (x == ("__classdict__" : Str)) = false) : L2.PE X (.Name x p) (tEv (tOf X C) W g (.var i)) := by
  refine PE.mono (pe_var h1 h2 h3 h4) fun σ H Q ⟨ρ, S, μ, env, st, h⟩ => ?_
  unfold evalE at h
  cases e : ρ[i]? with
  | none => rw [e] at h; exact h.elim
  | some o =>
    cases o with
    | none => rw [e] at h; exact h.elim
    | some d =>
      rw [e] at h
      obtain ⟨v, e1, r⟩ := env.2 i d e
      exact ⟨v, e1, h v H μ [] (Pst.flat Stp.refl st r)⟩
theorem s_val {x : Expr} {d : D} {v : V} (h : L2.PE X x (tC v)) (r : scalV d v) : L2.PE X x (tEv (tOf X C) W g (.cst d)) := by
  refine PE.mono h fun σ H Q ⟨ρ, S, μ, env, st, k⟩ => ?_
  unfold evalE at k
  exact k v H μ [] (Pst.flat Stp.refl st r.rep)
theorem pas : ∀ (es : List PE) (xs : List Expr), all2 (fun e x => decide True) es xs = true → (∀ (i : Nat) e x, es[i]? = some e → xs[i]? = some x → L2.PE X x (tEv (tOf X C) W g e)) → xs.all noStar = true → PA X xs (tEvs (tOf X C) W g es)
  | [], [], _, _, _ => by
    refine PA.mono pa_nil fun σ H Q ⟨ρ, S, μ, env, st, h⟩ => ?_
    unfold evalEs at h
    exact h [] H μ [] ⟨Stp.refl, st, ⟨rfl, rfl⟩, by simpa using st.nd, by simp⟩
  | [], _ :: _, h, _, _ => by cases h
  | _ :: _, [], h, _, _ => by cases h
  | e :: es, x :: xs, h, hp, hs => by
    rw [List.all_cons, Bool.and_eq_true] at hs
    have ih := pas es xs (Bool.and_eq_true_iff.mp h).2 (fun i e x h1 h2 => hp (i + 1) e x (by simpa using h1) (by simpa using h2)) hs.2
    refine PA.mono (pa_cons (hp 0 e x rfl rfl) ih (star_of hs.1)) fun σ H Q ⟨ρ, S, μ, env, st, h⟩ => ?_
    unfold evalEs at h
    refine ev1 env st h.bnd fun d S1 v H1 μ1 f1 p1 k => ?_
    refine ⟨ρ, S1, μ1, env.keep st.kinds p1.stp, p1.ok, (k.on p1.stp).bnd.imp fun ds S2 _ k2 vs H2 μ2 f2 p2 => ?_⟩
    have r1 : Rep (tOf X C) H2 μ2 d v f1 := Rep.keep p1.ok.kinds p2.stp d v f1 p1.rep (nd_out p1.nd)
    refine k2 (v :: vs) H2 μ2 (f1 ++ f2) ⟨p1.stp.trans p2.stp, p2.ok, ⟨v, vs, f1, f2, rfl, r1, p2.rep, rfl⟩, nd_step p2.stp p1.nd p2.nd (Rep.there d v f1 p1.rep) p2.new, fun a m => ?_⟩
    rcases List.mem_append.mp m with m | m
    · exact p1.new a m
    · exact p1.stp.free (p2.new a m)
variable {a b c : PE} {x y : Expr} {p : Pos}
theorem s_tup {es : List PE} {xs : List Expr} {k : Nat} (h : PA X xs (tEvs (tOf X C) W g es)) (hl : xs.length ≤ 1000) (hls : xs.length = es.length) : L2.PE X (.Tuple xs k p) (tEv (tOf X C) W g (.tup es)) := by
  refine PE.mono (pe_tup h) fun σ H Q ⟨ρ, S, μ, env, st, h⟩ => ?_
  unfold evalE at h
  refine evse env st h.bnd fun ds S1 vs H1 μ1 fp e1 p1 k1 => ?_
  have hlen : ds.length = es.length := evalEs_len es ρ S ds S1 e1
  refine ⟨by rw [Reps.len _ _ _ p1.rep, hlen, ← hls]; exact Nat.le_trans hl (by decide), out_tup (S := S1) p1.rep p1.nd (fun a m => m) (fin_outs p1 k1)⟩
theorem s_lst {es : List PE} {xs : List Expr} (h : PA X xs (tEvs (tOf X C) W g es)) (hl : xs.length ≤ 1000) (hls : xs.length = es.length) : L2.PE X (.List xs p) (tEv (tOf X C) W g (.lst es)) := by
  refine PE.mono (pe_lst h) fun σ H Q ⟨ρ, S, μ, env, st, h⟩ => ?_
  unfold evalE at h
  refine evse env st h.bnd fun ds S1 vs H1 μ1 fp e1 p1 k1 => ?_
  have hlen : ds.length = es.length := evalEs_len es ρ S ds S1 e1
  refine ⟨by rw [Reps.len _ _ _ p1.rep, hlen, ← hls]; exact Nat.le_trans hl (by decide), out_lst p1.ok p1.rep p1.nd (fun a m => m) (fin_outs p1 k1)⟩
theorem s_dct0 : L2.PE X (.Dict [] [] p) (tEv (tOf X C) W g .dct0) := by
  refine PE.mono pe_dnewK fun σ H Q ⟨ρ, S, μ, env, st, h⟩ => ?_
  unfold evalE at h
  intro d nd
  have sm : Same H (upd H d (.dK [])) := Same.upd nd
  refine h _ _ μ [d] ⟨Same.stp sm, StOk.same sm st, ⟨d, [], [], rfl, ⟨[], upd_same, rfl, rfl, List.nodup_nil⟩, ⟨rfl, rfl⟩, rfl⟩, ?_, fun a m => ?_⟩
  · refine List.nodup_append.mpr ⟨st.nd, by simp, fun a ha b hb e => ?_⟩
    have : b = d := by simpa using hb
    subst this; subst e
    rcases st.kinds a ha with ⟨_, z⟩ | ⟨_, z⟩ | ⟨_, z⟩ <;> (rw [nd] at z; cases z)
  · have : a = d := by simpa using m
    subst this; exact nd
theorem s_bin {o : Bin} (ha : L2.PE X x (tEv (tOf X C) W g a)) (hb : L2.PE X y (tEv (tOf X C) W g b)) : L2.PE X (.BinOp x (opOf o) y p) (tEv (tOf X C) W g (.bin o a b)) := by
  refine PE.mono (pe_op (op_bin (C := C) o) ha hb) fun σ H Q ⟨ρ, S, μ, env, st, h⟩ => ?_
  unfold evalE at h
  refine ev2 env st (h.bnd.imp fun x S1 _ k => k.bnd) fun d e S2 u v H2 μ2 f1 f2 p2 r1 r2 k => ?_
  obtain ⟨z, e1, k1⟩ := k.map
  exact ⟨d, e, S2, μ2, f1, f2, z, ⟨r1, r2, p2.ok, p2.nd⟩, e1, fin_outs p2 k1⟩
theorem s_neg (ha : L2.PE X x (tEv (tOf X C) W g a)) : L2.PE X (.UnaryOp .USub x p) (tEv (tOf X C) W g (.neg a)) := by
  refine PE.mono (pe_un un_neg ha) fun σ H Q ⟨ρ, S, μ, env, st, h⟩ => ?_
  unfold evalE at h
  refine ev1 env st h.bnd fun d S1 v H1 μ1 fp p1 k => ?_
  cases d with
  | int i =>
    obtain ⟨rfl, rfl⟩ := p1.rep
    exact ⟨i, rfl, fin_scal p1 k ⟨rfl, rfl⟩⟩
  | _ => exact k.elim
theorem s_not (ha : L2.PE X x (tEv (tOf X C) W g a)) : L2.PE X (.UnaryOp .Not x p) (tEv (tOf X C) W g (.not a)) := by
  refine PE.mono (pe_notT ha) fun σ H Q ⟨ρ, S, μ, env, st, h⟩ => ?_
  unfold evalE at h
  refine ev1 env st h.tests.test fun d S1 v H1 μ1 fp p1 ⟨t, e, k⟩ => ?_
  exact ⟨t, tru_d p1.ok p1.rep e, fin_scal p1 k ⟨rfl, rfl⟩⟩
theorem s_and {rest : List Expr} (ha : L2.PE X x (tEv (tOf X C) W g a)) (hb : L2.PE X (.BoolOp .And (y :: rest) p) (tEv (tOf X C) W g b)) : L2.PE X (.BoolOp .And (x :: y :: rest) p) (tEv (tOf X C) W g (.and a b)) := by
  refine PE.mono (pe_andT ha hb) fun σ H Q ⟨ρ, S, μ, env, st, h⟩ => ?_
  unfold evalE at h
  refine ev1 env st h.bnd fun d S1 v H1 μ1 fp p1 k => ?_
  cases e : truth S1 d with
  | none => rw [e] at k; exact k.elim
  | some t =>
    rw [e] at k
    refine ⟨t, tru_d p1.ok p1.rep e, ?_⟩
    cases t with
    | true =>
      rw [if_pos rfl]
      refine ⟨ρ, S1, μ1, env.keep st.kinds p1.stp, p1.ok, (k.on p1.stp).imp fun z S2 _ k2 v2 H2 μ2 f2 p2 => k2 v2 H2 μ2 f2 ⟨p1.stp.trans p2.stp, p2.ok, p2.rep, p2.nd, fun a m => p1.stp.free (p2.new a m)⟩⟩
    | false =>
      rw [if_neg (by decide)]
      exact k v H1 μ1 fp p1
theorem s_or {rest : List Expr} (ha : L2.PE X x (tEv (tOf X C) W g a)) (hb : L2.PE X (.BoolOp .Or (y :: rest) p) (tEv (tOf X C) W g b)) : L2.PE X (.BoolOp .Or (x :: y :: rest) p) (tEv (tOf X C) W g (.or a b)) := by
  refine PE.mono (pe_orT ha hb) fun σ H Q ⟨ρ, S, μ, env, st, h⟩ => ?_
  unfold evalE at h
  refine ev1 env st h.bnd fun d S1 v H1 μ1 fp p1 k => ?_
  cases e : truth S1 d with
  | none => rw [e] at k; exact k.elim
  | some t =>
    rw [e] at k
    refine ⟨t, tru_d p1.ok p1.rep e, ?_⟩
    cases t with
    | false =>
      rw [if_neg (by decide)]
      refine ⟨ρ, S1, μ1, env.keep st.kinds p1.stp, p1.ok, (k.on p1.stp).imp fun z S2 _ k2 v2 H2 μ2 f2 p2 => k2 v2 H2 μ2 f2 ⟨p1.stp.trans p2.stp, p2.ok, p2.rep, p2.nd, fun a m => p1.stp.free (p2.new a m)⟩⟩
    | true =>
      rw [if_pos rfl]
      exact k v H1 μ1 fp p1
end
end Ev
end
section
set_option Elab.async false
set_option linter.all false
set_option maxRecDepth 100000
namespace Ev
open PySem PySem.Spec PyProof.Rows L2 PySem.SeqAt
section
variable {X : Cx} {C : Nat → Addr} {W : WX} {n : Nat} {g : G} {cc : CC} {a b c : PE} {x y z : Expr} {p : Pos}
theorem s_cmp {o : Cmp} (hu : X.A.units + 200 < cLine) (ha : L2.PE X x (tEv (tOf X C) W g a)) (hb : L2.PE X y (tEv (tOf X C) W g b)) (hy : noSet y = true) : L2.PE X (.Compare x [cOf o] [y] p) (tEv (tOf X C) W g (.cmp o a b)) := by
  refine PE.mono (pe_cmpR (op_cmp (C := C) hu o) ha hb (no_mark hy)) fun σ H Q ⟨ρ, S, μ, env, st, h⟩ => ?_
  unfold evalE at h
  refine ev2 env st (h.bnd.imp fun x S1 _ k => k.bnd) fun d e S2 u v H2 μ2 f1 f2 p2 r1 r2 k => ?_
  obtain ⟨t, e1, k1⟩ := k.map
  exact ⟨d, e, S2, μ2, f1, f2, t, ⟨r1, r2, p2.ok, p2.nd⟩, e1, fin_scals p2 k1 ⟨rfl, rfl⟩⟩
theorem tst_cmp {o : Cmp} (hu : X.A.units + 200 < cLine) (ha : L2.PE X x (tEv (tOf X C) W g a)) (hb : L2.PE X y (tEv (tOf X C) W g b)) (hy : noSet y = true) : PT X (.Compare x [cOf o] [y] p) (tEvT (tOf X C) W g (.cmp o a b)) := by
  refine PT.mono (pt_cmpR (op_cmp (C := C) hu o) ha hb (no_mark hy)) fun σ H Q ⟨ρ, S, μ, env, st, h⟩ => ?_
  have h := h.test
  unfold evalE at h
  refine ev2 env st (h.bnd.imp fun x S1 _ k => k.bnd) fun d e S2 u v H2 μ2 f1 f2 p2 r1 r2 k => ?_
  obtain ⟨t, e1, b', eb, k1⟩ := k.map
  have eb' : b' = t := by cases eb; rfl
  subst eb'
  exact ⟨d, e, S2, μ2, f1, f2, b', ⟨r1, r2, p2.ok, p2.nd⟩, e1, b', rfl, k1 H2 μ2 p2.stp p2.ok⟩
/-- the chain, whatever is made of its end -/
theorem chain_of {o o' : Cmp} {σ : Slots} {H : Hp} {μ : List Addr} {ρ : Env} {S : Sto} {Q : VK} {K : Bool → Sto → Prop} (env : EnvOk (tOf X C) H μ σ ρ) (st : StOk (tOf X C) H μ S)
    (h : Ran (tOf X C) W σ H μ (evalE g (.cmp2 o o' a b c) ρ S) fun d S' => ∃ t, d = .bl t ∧ K t S') (fin : ∀ t S' H' μ', Stp H μ H' μ' → StOk (tOf X C) H' μ' S' → K t S' → Q (.bl t) H') :
    tChain (rCmp (tOf X C) o) (rCmp (tOf X C) o') (tEv (tOf X C) W g a) (tEv (tOf X C) W g b) (tEv (tOf X C) W g c) σ H Q := by
  unfold evalE at h
  refine ev2 env st (h.bnd.imp fun x S1 _ k => k.bnd) fun d e S2 u v H2 μ2 f1 f2 p2 r1 r2 k => ?_
  cases hc : cmpE S2 o d e with
  | none => rw [hc] at k; exact k.elim
  | some t =>
    rw [hc] at k
    refine ⟨d, e, S2, μ2, f1, f2, t, ⟨r1, r2, p2.ok, p2.nd⟩, hc, t, rfl, ?_⟩
    cases t with
    | false =>
      rw [if_neg (by decide)]
      obtain ⟨t', et, k'⟩ := k
      cases et
      exact fin false S2 H2 μ2 p2.stp p2.ok k'
    | true =>
      rw [if_pos rfl]
      have k2 : Ran (tOf X C) W σ H μ (bnd (evalE g c ρ S2) fun z S => (cmpE S o' e z).map fun u => R.ok (D.bl u) S) fun d S' => ∃ t, d = D.bl t ∧ K t S' := k
      refine ev1 (env.keep st.kinds p2.stp) p2.ok (k2.on p2.stp).bnd fun z S3 w H3 μ3 f3 p3 k3 => ?_
      obtain ⟨t', e1, t2, et, k4⟩ := k3.map
      cases et
      have kd := p2.ok.kinds
      have r2' : Rep (tOf X C) H3 μ3 e v f2 := Rep.keep kd p3.stp e v f2 r2 fun a m => nd_out p2.nd a (List.mem_append_right _ m)
      have nd2 : (μ2 ++ f2).Nodup := nd_sub p2.nd (List.sublist_append_right _ _)
      exact ⟨e, z, S3, μ3, f2, f3, _, ⟨r2', p3.rep, p3.ok, nd_step p3.stp nd2 p3.nd (Rep.there e v f2 r2) p3.new⟩, e1, fin _ S3 H3 μ3 (p2.stp.trans p3.stp) p3.ok k4⟩
theorem cmp2_bl {o o' : Cmp} {ρ : Env} {S : Sto} {T : Pgm} {σ : Slots} {H : Hp} {μ : List Addr} {Q : D → Sto → Prop} (h : Ran T W σ H μ (evalE g (.cmp2 o o' a b c) ρ S) Q) : Ran T W σ H μ (evalE g (.cmp2 o o' a b c) ρ S) fun d S' => ∃ t, d = .bl t ∧ Q (.bl t) S' := by
  refine h.imp fun d S' e q => ?_
  have : ∃ t, d = .bl t := by
    unfold evalE at e
    cases h1 : evalE g a ρ S with
    | none => rw [h1] at e; cases e
    | some r =>
      cases r with
      | ex _ _ => rw [h1] at e; cases e
      | ok d1 S1 =>
        rw [h1, bnd_ok] at e
        cases h2 : evalE g b ρ S1 with
        | none => rw [h2] at e; cases e
        | some r =>
          cases r with
          | ex _ _ => rw [h2] at e; cases e
          | ok d2 S2 =>
            rw [h2, bnd_ok] at e
            cases hc : cmpE S2 o d1 d2 with
            | none => rw [hc] at e; cases e
            | some t =>
              cases t with
              | false => rw [hc] at e; cases e; exact ⟨false, rfl⟩
              | true =>
                rw [hc] at e
                cases h3 : evalE g c ρ S2 with
                | none => simp only [h3, bnd_none] at e; cases e
                | some r =>
                  cases r with
                  | ex _ _ => simp only [h3, bnd_ex] at e; cases e
                  | ok d3 S3 =>
                    simp only [h3, bnd_ok] at e
                    obtain ⟨u, _, eu⟩ := Option.map_eq_some_iff.mp e
                    cases eu; exact ⟨u, rfl⟩
  obtain ⟨t, rfl⟩ := this
  exact ⟨t, rfl, q⟩
theorem marks2 {op op' : CmpOp} {y z : Expr} (h : noSet z = true) : lastMarks [op, op'] [y, z] = false := by
  show behindInMarks op' z = false
  exact no_mark h
theorem s_cmp2 {o o' : Cmp} (hu : X.A.units + 200 < cLine) (ha : L2.PE X x (tEv (tOf X C) W g a)) (hb : L2.PE X y (tEv (tOf X C) W g b)) (hc : L2.PE X z (tEv (tOf X C) W g c)) (hz : noSet z = true) : L2.PE X (.Compare x [cOf o, cOf o'] [y, z] p) (tEv (tOf X C) W g (.cmp2 o o' a b c)) := by
  refine PE.mono (pe_chain (op_cmp (C := C) hu o) (op_cmp (C := C) hu o') ha hb hc (marks2 hz)) fun σ H Q ⟨ρ, S, μ, env, st, h⟩ => ?_
  exact chain_of env st (cmp2_bl h) fun t S' H' μ' s ok k => k _ H' μ' [] (Pst.flat s ok ⟨rfl, rfl⟩)
theorem tst_cmp2 {o o' : Cmp} (hu : X.A.units + 200 < cLine) (ha : L2.PE X x (tEv (tOf X C) W g a)) (hb : L2.PE X y (tEv (tOf X C) W g b)) (hc : L2.PE X z (tEv (tOf X C) W g c)) (hz : noSet z = true) : PT X (.Compare x [cOf o, cOf o'] [y, z] p) (tEvT (tOf X C) W g (.cmp2 o o' a b c)) := by
  refine PT.mono (pt_chain (op_cmp (C := C) hu o) (op_cmp (C := C) hu o') ha hb hc (marks2 hz)) fun σ H Q ⟨ρ, S, μ, env, st, h⟩ => ?_
  exact chain_of env st (cmp2_bl h.test) fun t S' H' μ' s ok ⟨t', e, k⟩ => ⟨t, rfl, by cases e; exact k H' μ' s ok⟩
/-! ### is -/
def rIsD' (T : Pgm) (ng : Bool) : R2 := fun x y H Q => ∃ d c μ fp b, Rep T H μ d x fp ∧ scalV c y ∧ isC ng c d = some b ∧ Q (.bl b) H
theorem op_isD (ng : Bool) : OpR X (compareOp (if ng then .IsNot else .Is)) (rIsD' (tOf X C) ng) := by
  intro pins s σ H x y v u Q I rx ry ⟨d, c, μ, fp, b, r, sc, e, q⟩
  have plain : ∀ (w : Value), plainIs v w = true → u = w → (∀ k, k = (if ng then !(v == w) else (v == w)) → k = b) → wpAny (model X.prog X.w) X.A (compareOp (if ng then .IsNot else .Is) v u) (EP X pins σ Q) X.xe s := fun w hp hw hk => by
    subst hw
    cases ng with
    | false => exact wpAny_is_plain hp ⟨.bl b, H, I, by rw [hk (v == u) rfl]; rfl, q⟩
    | true => exact wpAny_isNot_plain hp ⟨.bl b, H, I, by rw [hk (!(v == u)) rfl]; rfl, q⟩
  have refv : ∀ {a : Addr}, x = .ref a → v = .ref a := fun {a} h => by subst h; exact rx
  cases c with
  | non =>
    have ey : u = .none := by
      have : y = .non := sc
      subst this; exact ry
    cases d with
    | non =>
      obtain ⟨rfl, _⟩ := r
      cases (show v = Value.none from rx)
      cases e
      exact plain .none rfl ey fun k hk => by rw [hk]; cases ng <;> rfl
    | bl b1 =>
      obtain ⟨rfl, _⟩ := r
      cases (show v = Value.bool b1 from rx)
      cases e
      exact plain .none rfl ey fun k hk => by rw [hk]; cases ng <;> rfl
    | int i =>
      obtain ⟨rfl, _⟩ := r
      obtain ⟨t, rfl⟩ := rx
      cases e
      exact plain .none rfl ey fun k hk => by rw [hk]; cases ng <;> rfl
    | str i =>
      obtain ⟨rfl, _⟩ := r
      obtain ⟨t, rfl⟩ := rx
      cases e
      exact plain .none rfl ey fun k hk => by rw [hk]; cases ng <;> rfl
    | tup ds =>
      obtain ⟨a, _, ea, _⟩ := r
      have := refv ea; subst this
      cases e
      exact plain .none rfl ey fun k hk => by rw [hk]; cases ng <;> rfl
    | lst ds =>
      obtain ⟨a, _, _, ea, _⟩ := r
      have := refv ea; subst this
      cases e
      exact plain .none rfl ey fun k hk => by rw [hk]; cases ng <;> rfl
    | fz ds =>
      obtain ⟨a, _, ea, _⟩ := r
      have := refv ea; subst this
      cases e
      exact plain .none rfl ey fun k hk => by rw [hk]; cases ng <;> rfl
    | dct ks ds =>
      obtain ⟨a, _, _, ea, _⟩ := r
      have := refv ea; subst this
      cases e
      exact plain .none rfl ey fun k hk => by rw [hk]; cases ng <;> rfl
    | nd ks ds =>
      obtain ⟨a, _, _, ea, _⟩ := r
      have := refv ea; subst this
      cases e
      exact plain .none rfl ey fun k hk => by rw [hk]; cases ng <;> rfl
    | ref m =>
      obtain ⟨a, ea, _⟩ := r
      have := refv ea; subst this
      cases e
      exact plain .none rfl ey fun k hk => by rw [hk]; cases ng <;> rfl
    | exc m =>
      obtain ⟨a, ea, _⟩ := r
      have := refv ea; subst this
      cases e
      exact plain .none rfl ey fun k hk => by rw [hk]; cases ng <;> rfl
  | bl cb =>
    have ey : u = .bool cb := by
      have : y = .bl cb := sc
      subst this; exact ry
    cases d with
    | non =>
      obtain ⟨rfl, _⟩ := r
      cases (show v = Value.none from rx)
      cases e
      exact plain (.bool cb) rfl ey fun k hk => by rw [hk]; cases ng <;> rfl
    | bl b1 =>
      obtain ⟨rfl, _⟩ := r
      cases (show v = Value.bool b1 from rx)
      cases e
      exact plain (.bool cb) rfl ey fun k hk => by rw [hk]; cases ng <;> cases cb <;> cases b1 <;> rfl
    | int i =>
      obtain ⟨rfl, _⟩ := r
      obtain ⟨t, rfl⟩ := rx
      cases e
      exact plain (.bool cb) rfl ey fun k hk => by rw [hk]; cases ng <;> rfl
    | str i =>
      obtain ⟨rfl, _⟩ := r
      obtain ⟨t, rfl⟩ := rx
      cases e
      exact plain (.bool cb) rfl ey fun k hk => by rw [hk]; cases ng <;> rfl
    | tup ds =>
      obtain ⟨a, _, ea, _⟩ := r
      have := refv ea; subst this
      cases e
      exact plain (.bool cb) rfl ey fun k hk => by rw [hk]; cases ng <;> rfl
    | lst ds =>
      obtain ⟨a, _, _, ea, _⟩ := r
      have := refv ea; subst this
      cases e
      exact plain (.bool cb) rfl ey fun k hk => by rw [hk]; cases ng <;> rfl
    | fz ds =>
      obtain ⟨a, _, ea, _⟩ := r
      have := refv ea; subst this
      cases e
      exact plain (.bool cb) rfl ey fun k hk => by rw [hk]; cases ng <;> rfl
    | dct ks ds =>
      obtain ⟨a, _, _, ea, _⟩ := r
      have := refv ea; subst this
      cases e
      exact plain (.bool cb) rfl ey fun k hk => by rw [hk]; cases ng <;> rfl
    | nd ks ds =>
      obtain ⟨a, _, _, ea, _⟩ := r
      have := refv ea; subst this
      cases e
      exact plain (.bool cb) rfl ey fun k hk => by rw [hk]; cases ng <;> rfl
    | ref m =>
      obtain ⟨a, ea, _⟩ := r
      have := refv ea; subst this
      cases e
      exact plain (.bool cb) rfl ey fun k hk => by rw [hk]; cases ng <;> rfl
    | exc m =>
      obtain ⟨a, ea, _⟩ := r
      have := refv ea; subst this
      cases e
      exact plain (.bool cb) rfl ey fun k hk => by rw [hk]; cases ng <;> rfl
  | _ => cases d <;> cases e
theorem s_is {ng : Bool} {cd : D} {y : Expr} {v : V} (ha : L2.PE X x (tEv (tOf X C) W g a)) (hy : L2.PE X y (tC v)) (sc : scalV cd v) (hn : noSet y = true) : L2.PE X (.Compare x [if ng then .IsNot else .Is] [y] p) (tEv (tOf X C) W g (.is_ ng a cd)) := by
  refine PE.mono (pe_cmpR (op_isD (C := C) ng) ha hy (no_mark hn)) fun σ H Q ⟨ρ, S, μ, env, st, h⟩ => ?_
  unfold evalE at h
  refine ev1 env st h.bnd fun d S1 u H1 μ1 fp p1 k => ?_
  obtain ⟨t, e1, k1⟩ := k.map
  exact ⟨d, cd, μ1, fp, t, p1.rep, sc, e1, fin_scal p1 k1 ⟨rfl, rfl⟩⟩
theorem tst_is {ng : Bool} {cd : D} {y : Expr} {v : V} (ha : L2.PE X x (tEv (tOf X C) W g a)) (hy : L2.PE X y (tC v)) (sc : scalV cd v) (hn : noSet y = true) : PT X (.Compare x [if ng then .IsNot else .Is] [y] p) (tEvT (tOf X C) W g (.is_ ng a cd)) := by
  refine PT.mono (pt_cmpR (op_isD (C := C) ng) ha hy (no_mark hn)) fun σ H Q ⟨ρ, S, μ, env, st, h⟩ => ?_
  have h := h.test
  unfold evalE at h
  refine ev1 env st h.bnd fun d S1 u H1 μ1 fp p1 k => ?_
  obtain ⟨t, e1, b', eb, k1⟩ := k.map
  cases eb
  exact ⟨d, cd, μ1, fp, _, p1.rep, sc, e1, _, rfl, k1 H1 μ1 p1.stp p1.ok⟩
/-! ### tests -/
theorem tst_plain (ha : L2.PE X x (tEv (tOf X C) W g a)) (hx : plainTest x = true) : PT X x (tEvT (tOf X C) W g a) := by
  refine PT.mono (pt_truth ha (test_of hx)) fun σ H Q ⟨ρ, S, μ, env, st, h⟩ => ?_
  exact ev1 env st h.test fun d S1 v H1 μ1 fp p1 ⟨t, e, k⟩ => ⟨t, tru_d p1.ok p1.rep e, k H1 μ1 p1.stp p1.ok⟩
theorem tst_not (ha : PT X x (tEvT (tOf X C) W g a)) : PT X (.UnaryOp .Not x p) (tEvT (tOf X C) W g (.not a)) := by
  refine PT.mono (pt_not ha) fun σ H Q ⟨ρ, S, μ, env, st, h⟩ => ?_
  have h := h.test
  unfold evalE at h
  refine evT1 env st h.tests fun t S1 H1 μ1 s ok ⟨b', eb, k⟩ => ?_
  cases eb
  exact k H1 μ1 s ok
theorem tst_and {rest : List Expr} (ha : PT X x (tEvT (tOf X C) W g a)) (hb : PW X (.BoolOp .And (y :: rest) p) (tEvT (tOf X C) W g b)) : PW X (.BoolOp .And (x :: y :: rest) p) (tEvT (tOf X C) W g (.and a b)) := by
  refine ⟨fun whole pins s σ H Q I q => (pw_and ha hb).run whole pins s σ H Q I ?_⟩
  obtain ⟨ρ, S, μ, env, st, h⟩ := q
  have h := h.test
  unfold evalE at h
  have h2 : Ran (tOf X C) W σ H μ (testE (evalE g a ρ S)) fun t S1 => if t = true then Ran (tOf X C) W σ H μ (testE (evalE g b ρ S1)) (FinB (tOf X C) H μ Q) else FinB (tOf X C) H μ Q false S1 := by
    refine Ran.to_test (h.bnd.imp fun d S1 _ k => ?_)
    cases e : truth S1 d with
    | none => rw [e] at k; exact k.elim
    | some t =>
      rw [e] at k
      refine ⟨t, rfl, ?_⟩
      cases t with
      | true => rw [if_pos rfl]; exact Ran.to_test k
      | false =>
        rw [if_neg (by decide)]
        obtain ⟨t', e', k'⟩ := k
        rw [e] at e'; cases e'; exact k'
  refine evT1 env st h2 fun t S1 H1 μ1 s ok k => ?_
  cases t with
  | true =>
    rw [if_pos rfl] at k ⊢
    exact ⟨ρ, S1, μ1, env.keep st.kinds s, ok, (k.on s).imp fun b S2 _ k2 H2 μ2 s2 ok2 => k2 H2 μ2 (s.trans s2) ok2⟩
  | false =>
    rw [if_neg (by decide)] at k ⊢
    exact k H1 μ1 s ok
theorem tst_or {rest : List Expr} (ha : PT X x (tEvT (tOf X C) W g a)) (hb : PW X (.BoolOp .Or (y :: rest) p) (tEvT (tOf X C) W g b)) : PW X (.BoolOp .Or (x :: y :: rest) p) (tEvT (tOf X C) W g (.or a b)) := by
  refine ⟨fun whole pins s σ H Q I q => (pw_or ha hb).run whole pins s σ H Q I ?_⟩
  obtain ⟨ρ, S, μ, env, st, h⟩ := q
  have h := h.test
  unfold evalE at h
  have h2 : Ran (tOf X C) W σ H μ (testE (evalE g a ρ S)) fun t S1 => if t = true then FinB (tOf X C) H μ Q true S1 else Ran (tOf X C) W σ H μ (testE (evalE g b ρ S1)) (FinB (tOf X C) H μ Q) := by
    refine Ran.to_test (h.bnd.imp fun d S1 _ k => ?_)
    cases e : truth S1 d with
    | none => rw [e] at k; exact k.elim
    | some t =>
      rw [e] at k
      refine ⟨t, rfl, ?_⟩
      cases t with
      | false => rw [if_neg (by decide)]; exact Ran.to_test k
      | true =>
        rw [if_pos rfl]
        obtain ⟨t', e', k'⟩ := k
        rw [e] at e'; cases e'; exact k'
  refine evT1 env st h2 fun t S1 H1 μ1 s ok k => ?_
  cases t with
  | false =>
    rw [if_neg (by decide)] at k ⊢
    exact ⟨ρ, S1, μ1, env.keep st.kinds s, ok, (k.on s).imp fun b S2 _ k2 H2 μ2 s2 ok2 => k2 H2 μ2 (s.trans s2) ok2⟩
  | true =>
    rw [if_pos rfl] at k ⊢
    exact k H1 μ1 s ok
theorem s_ife {z : Expr} (hc : PT X z (tEvT (tOf X C) W g c)) (ha : L2.PE X x (tEv (tOf X C) W g a)) (hb : L2.PE X y (tEv (tOf X C) W g b)) : L2.PE X (.IfExp z x y p) (tEv (tOf X C) W g (.ife c a b)) := by
  refine PE.mono (pe_ifExp hc ha hb) fun σ H Q ⟨ρ, S, μ, env, st, h⟩ => ?_
  unfold evalE at h
  refine evT1 env st h.tests fun t S1 H1 μ1 s ok k => ?_
  cases t with
  | true =>
    rw [if_pos rfl] at k ⊢
    exact ⟨ρ, S1, μ1, env.keep st.kinds s, ok, (k.on s).imp fun d S2 _ k2 v2 H2 μ2 f2 p2 => k2 v2 H2 μ2 f2 ⟨s.trans p2.stp, p2.ok, p2.rep, p2.nd, fun a m => s.free (p2.new a m)⟩⟩
  | false =>
    rw [if_neg (by decide)] at k ⊢
    exact ⟨ρ, S1, μ1, env.keep st.kinds s, ok, (k.on s).imp fun d S2 _ k2 v2 H2 μ2 f2 p2 => k2 v2 H2 μ2 f2 ⟨s.trans p2.stp, p2.ok, p2.rep, p2.nd, fun a m => s.free (p2.new a m)⟩⟩
end
end Ev
end
section
set_option Elab.async false
set_option linter.all false
set_option maxRecDepth 100000
namespace Ev
open PySem PySem.Spec PyProof.Rows L2 PySem.SeqAt
section
variable {X : Cx} {C : Nat → Addr} {W : WX} {n : Nat} {g : G} {cc : CC} {a b c : PE} {x y z : Expr} {p : Pos}
theorem s_idx (hu : X.A.units + 200 < cLine) (ha : L2.PE X x (tEv (tOf X C) W g a)) (hb : L2.PE X y (tEv (tOf X C) W g b)) (hy : noSlice y = true) : L2.PE X (.Subscript x y p) (tEv (tOf X C) W g (.idx a b)) := by
  refine PE.mono (pe_ix (ix_d (C := C) (by omega)) ha hb (plain_ix hy)) fun σ H Q ⟨ρ, S, μ, env, st, h⟩ => ?_
  unfold evalE at h
  refine ev2 env st (h.bnd.imp fun x S1 _ k => k.bnd) fun d e S2 u v H2 μ2 f1 f2 p2 r1 r2 k => ?_
  obtain ⟨z, e1, k1⟩ := k.map
  exact ⟨d, e, S2, μ2, f1, f2, z, ⟨r1, r2, p2.ok, p2.nd⟩, e1, fin_outs p2 k1⟩
/-- a part of a slice -/
def tEvO (T : Pgm) (W : WX) (g : G) (e : PE) : TO := fun σ H Q => ∃ ρ S μ, EnvOk T H μ σ ρ ∧ StOk T H μ S ∧ Ran T W σ H μ (evalE g e ρ S) fun d S' => ∃ o, partOf d = some o ∧ ∀ H' μ', Stp H μ H' μ' → StOk T H' μ' S' → Q o H'
theorem po_no : PO X none (tEvO (tOf X C) W g (.cst .non)) := by
  refine ⟨fun pins s σ H Q I ⟨ρ, S, μ, env, st, h⟩ => po_none.run pins s σ H Q I ?_⟩
  unfold evalE at h
  obtain ⟨o, e, q⟩ := h
  cases e
  exact q H μ Stp.refl st
theorem po_so (ha : L2.PE X x (tEv (tOf X C) W g a)) : PO X (some x) (tEvO (tOf X C) W g a) := by
  refine ⟨fun pins s σ H Q I ⟨ρ, S, μ, env, st, h⟩ => ?_⟩
  rw [evalPart_some]
  have h2 : tEv (tOf X C) W g a σ H fun v H' => ∃ o, ((v = .non ∧ o = none) ∨ ∃ i, v = .int i ∧ o = some i) ∧ Q o H' := ev1 env st h fun d S1 v H1 μ1 fp p1 ⟨o, e, q⟩ => by
    cases d with
    | int i =>
      cases e
      obtain ⟨rfl, rfl⟩ := p1.rep
      exact ⟨_, .inr ⟨i, rfl, rfl⟩, q H1 μ1 p1.stp p1.ok⟩
    | non =>
      cases e
      obtain ⟨rfl, rfl⟩ := p1.rep
      exact ⟨_, .inl ⟨rfl, rfl⟩, q H1 μ1 p1.stp p1.ok⟩
    | _ => cases e
  refine thn (ha.run pins s σ H _ I h2) fun u s1 ⟨x, H1, I1, r1, o, alt, q⟩ => ?_
  rcases alt with ⟨rfl, rfl⟩ | ⟨i, rfl, rfl⟩
  · cases r1
    exact ⟨none, H1, I1, .none, q⟩
  · obtain ⟨t, rfl⟩ := r1
    exact ⟨some i, H1, I1, .int i t, q⟩
theorem s_sl {l h : Option Expr} {lo hi : PE} {p2 : Pos} (ha : L2.PE X x (tEv (tOf X C) W g a)) (hl : PO X l (tEvO (tOf X C) W g lo)) (hh : PO X h (tEvO (tOf X C) W g hi)) : L2.PE X (.Subscript x (.Slice l h none p2) p) (tEv (tOf X C) W g (.sl a lo hi)) := by
  refine PE.mono (pe_slice (sl_d (C := C)) ha hl hh) fun σ H Q ⟨ρ, S, μ, env, st, h⟩ => ?_
  unfold evalE at h
  refine ev1 env st h.bnd fun d S1 v H1 μ1 fp p1 k => ?_
  refine ⟨ρ, S1, μ1, env.keep st.kinds p1.stp, p1.ok, (k.on p1.stp).bnd.imp fun dl S2 _ k2 => ?_⟩
  by_cases hip : isPart dl = true
  case neg => rw [if_neg hip] at k2; exact k2.elim
  rw [if_pos hip] at k2
  have hpl : ∃ ol, partOf dl = some ol := by
    cases dl <;> first | exact ⟨_, rfl⟩ | cases hip
  have go : ∀ ol, partOf dl = some ol → ∀ H2 μ2, Stp H1 μ1 H2 μ2 → StOk (tOf X C) H2 μ2 S2 → tEvO (tOf X C) W g hi σ H2 fun u H3 => rSlD (tOf X C) v ol u H3 Q := fun ol eo H2 μ2 s2 ok2 => by
    refine ⟨ρ, S2, μ2, (env.keep st.kinds p1.stp).keep p1.ok.kinds s2, ok2, (k2.on s2).bnd.imp fun dh S3 _ k3 => ?_⟩
    obtain ⟨z, e1, k4⟩ := k3.map
    have hp : ∃ oh, partOf dh = some oh := by
      unfold slE at e1
      cases dh <;> first
        | exact ⟨_, rfl⟩
        | (exfalso
           split at e1
           · split at e1
             · rename_i q1 q2; cases q2
             · cases e1
           · split at e1
             · rename_i q1 q2; cases q2
             · cases e1
           · split at e1
             · split at e1
               · rename_i q1 q2; cases q2
               · cases e1
             · cases e1)
    obtain ⟨oh, eh⟩ := hp
    refine ⟨oh, eh, fun H3 μ3 s3 ok3 => ?_⟩
    have s13 := s2.trans s3
    have r3 : Rep (tOf X C) H3 μ3 d v fp := Rep.keep p1.ok.kinds s13 d v fp p1.rep (nd_out p1.nd)
    have nd3 : (μ3 ++ fp).Nodup := by
      have := nd_step (f2 := []) s13 p1.nd (by simpa using ok3.nd) (Rep.there d v fp p1.rep) (by simp)
      simpa using this
    refine ⟨d, dl, dh, S3, μ3, fp, z, r3, ok3, nd3, eo, eh, e1, fun v' H' fp' s r nd ow => ?_⟩
    exact k4 v' H' μ3 fp' ⟨(p1.stp.trans s13).trans (Same.stp s), StOk.same s ok3, r, nd, fun a m => (ow a m).elim (p1.new a) fun e => p1.stp.free (s13.free e)⟩
  obtain ⟨ol, eo⟩ := hpl
  exact ⟨ol, eo, fun H2 μ2 s2 ok2 => go ol eo H2 μ2 s2 ok2⟩
end
end Ev
end
section
set_option Elab.async false
set_option linter.all false
set_option maxRecDepth 100000
namespace Ev
open PySem PySem.Spec PyProof.Rows L2 PySem.SeqAt
section
variable {X : Cx} {C : Nat → Addr} {W : WX} {n : Nat} {g : G} {cc : CC} {a b c : PE} {x y z : Expr} {p p' : Pos} {es : List PE} {ys : List Expr}
theorem passM {m : Bool} {X : Cx} {W : WX} (tk : Tk m X W) (σ : L2.St) : PassesAt (CXm m X.prog X.w) X σ (WE W σ) := by
  cases m with
  | true => exact L2N.passAt tk.zn σ
  | false => exact passAt tk.zc σ
theorem s_call {f : Nat} {nm : Str} (G : Good C W n g cc X) (hg : glob cc.sc nm = true) (hf : cc.fnames[f]? = some nm) (ha : PA X (y :: ys) (tEvs (tOf X C) W g es)) (hs : (y :: ys).all noStar = true) : L2.PE X (.Call (.Name nm p') (y :: ys) [] p) (tEv (tOf X C) W g (.call f es)) := by
  obtain ⟨addr, fd, ps, h1, h2, h3, h4⟩ := G.funs f nm hf
  obtain ⟨g1, g2, g3⟩ := G.gl hg
  rw [List.all_cons, Bool.and_eq_true] at hs
  refine PE.mono (pe_callS h4 G.room g1 h1 h2 h3 (fun σ => passM G.tk σ) ha g2 (star_of hs.1) (stars_none hs.2)) fun σ H Q ⟨ρ, S, μ, env, st, h⟩ => ?_
  unfold evalE at h
  refine evse env st h.bnd fun ds S1 vs H1 μ1 fp e1 p1 k => ?_
  refine ⟨ds, S1, μ1, fp, p1.rep, p1.ok, p1.nd, ?_⟩
  cases hF : g.F f ds S1 with
  | none => rw [hF] at k; exact k.elim
  | some r =>
    rw [hF] at k
    cases r with
    | ok d S2 => exact fun v H' μ' fp' s ok r nd ow => k v H' μ' fp' ⟨StpO.of p1.stp p1.new (nd_out p1.nd) s, ok, r, nd, fun a m => (ow a m).elim (p1.new a) p1.stp.free⟩
    | ex cl S2 => exact fun H' μ' s ok => k H' μ' (StpO.of p1.stp p1.new (nd_out p1.nd) s) ok
theorem s_blt {bt : Blt} (G : Good C W n g cc X) (hg : glob cc.sc (bNm bt) = true) (ha : PA X (y :: ys) (tEvs (tOf X C) W g es)) (hs : (y :: ys).all noStar = true) : L2.PE X (.Call (.Name (bNm bt) p') (y :: ys) [] p) (tEv (tOf X C) W g (.blt bt es)) := by
  obtain ⟨g1, g2, g3⟩ := G.gl hg
  rw [List.all_cons, Bool.and_eq_true] at hs
  have hm := G.free _ (bNm_mem bt)
  have base : L2.PE X (.Call (.Name (bNm bt) p') (y :: ys) [] p) (tCB (rBlt (tOf X C) bt) (tEvs (tOf X C) W g es)) := by
    have hb := boot_b bt
    have hc := call_blt (C := C) G.calm bt
    cases bt <;> first
      | exact pe_callB hc g1 hm hb ha g3 g2 (star_of hs.1) (stars_none hs.2)
      | exact pe_callTy hc g1 hm hb ha g3 g2 (star_of hs.1) (stars_none hs.2)
  refine PE.mono base fun σ H Q ⟨ρ, S, μ, env, st, h⟩ => ?_
  unfold evalE at h
  refine evse env st h.bnd fun ds S1 vs H1 μ1 fp e1 p1 k => ?_
  obtain ⟨z, e2, k1⟩ := k.map
  exact ⟨ds, S1, μ1, fp, z, p1.rep, p1.ok, p1.nd, e2, fin_outs p1 k1⟩
theorem mSlot (m : Mth) : PlainAttrs (mTy m) ∧ Slot (mTy m) (mNm m) (mId m) ∧ typeOf (.builtin (mId m)) = pure (.type "method_descriptor") := by
  cases m with
  | append => exact ⟨PySem.F.plainAttrs_list, PySem.F.slot_list_append, PySem.F.type_list_append⟩
  | pop => exact ⟨PySem.F.plainAttrs_list, PySem.F.slot_list_pop, PySem.F.type_list_pop⟩
  | extend => exact ⟨PySem.F.plainAttrs_list, PySem.F.slot_list_extend, PySem.F.type_list_extend⟩
  | join => exact ⟨PySem.F.plainAttrs_str, PySem.F.slot_str_join, PySem.F.type_str_join⟩
  | upper => exact ⟨PySem.F.plainAttrs_str, PySem.F.slot_str_upper, PySem.F.type_str_upper⟩
  | get => exact ⟨PySem.F.plainAttrs_dict, PySem.F.slot_dict_get, PySem.F.type_dict_get⟩
  | split => exact ⟨PySem.F.plainAttrs_str, PySem.F.slot_str_split, PySem.F.type_str_split⟩
  | startswith => exact ⟨PySem.F.plainAttrs_str, PySem.F.slot_str_startswith, PySem.F.type_str_startswith⟩
  | partition => exact ⟨PySem.F.plainAttrs_str, PySem.F.slot_str_partition, PySem.F.type_str_partition⟩
/-- the type of what a method is called on; dicts with tuple keys too -/
def tyW (X : Cx) (T : String) (x : V) (H : Hp) : Prop := tyV X.K T x H ∨ (T = "dict" ∧ ∃ a w xs, x = .ref a ∧ H a = some (ndHO w a xs))
theorem tyW_is {pins : List (Addr × Obj)} {σ : L2.St} {H : Hp} {s : Shared} {T : String} {x : V} {v : Value} (I : Inv X pins σ H s) (r : RelV x v) (ty : tyW X T x H) :
    s.TypeIs v T ∧ ∀ a, v = .ref a → ∃ ob, s.heap.get? a = some ob ∧ ob.dict = none := by
  rcases ty with ty | ⟨rfl, a, w, xs, rfl, e⟩
  · exact tyV_is I r ty
  · cases (show v = Value.ref a from r)
    obtain ⟨⟨_, _, _, _, o, _, _, h1, h2, _⟩, _⟩ := I.hok a _ e
    refine ⟨⟨o, h1, h2.1⟩, fun b e2 => ?_⟩
    cases e2
    exact ⟨o, h1, h2.2.1⟩
theorem pe_bmW {o e : Expr} {es : List Expr} {to : TE} {t : TA} {name : Str} {apos cpos : Pos} {T id : String} {r : V → List V → Hp → VK → Prop}
    (pa : PlainAttrs T) (slot : Slot T name id) (hty : typeOf (.builtin id) = pure (.type "method_descriptor")) (hm : MtR X id r) (ho : L2.PE X o to) (ha : PA X (e :: es) t)
    (hbase : attributeBase o name X.env (eval o X.env) = eval o X.env)
    (hfew : ((backTo cpos (starEach (e :: es) X.env)).all (fun x => !x.1) && (backToKw cpos (keywordEach [] X.env)).all (fun x => x.1.isSome)
      && decide ((e :: es).length + ([] : List Keyword).length + (if ([] : List Keyword).isEmpty then 0 else 1) < 30)) = true)
    (hline : (apos.endLine == cpos.line) = true) (hs : starEach (e :: es) X.env = (false, eval e X.env) :: starEach es X.env) (hplain : (backTo cpos (starEach es X.env)).any (·.1) = false) :
    L2.PE X (.Call (.Attribute o name apos) (e :: es) [] cpos) (fun σ H Q => to σ H fun x H1 => tyW X T x H1 ∧ t σ H1 fun xs H2 => r x xs H2 Q) := by
  refine ⟨fun pins s σ H Q I h => ?_⟩
  refine wpAny_Call_method_late hbase hfew hline rfl (thn (ho.run pins s σ H _ I h) fun v s1 ⟨x, H1, I1, r1, ty, q1⟩ => ?_)
  obtain ⟨h1, h2⟩ := tyW_is I1 r1 ty
  refine ⟨T, id, pa, slot, hty, h1, h2, ?_⟩
  have hA := ha.run cpos pins s1 σ H1 _ I1 q1
  rw [hs] at hA ⊢
  refine Calls.callWith_builtin (by show (false || (backTo cpos (starEach es X.env)).any (·.1)) = false; rw [hplain] <;> rfl) (Calls.evalArgs_plain ?_)
  exact thn hA fun us s2 ⟨vs, H2, I2, r2, q2⟩ => hm pins s2 σ H2 x vs v us Q I2 r1 r2 q2
theorem pe_bm0W {o : Expr} {to : TE} {name : Str} {apos cpos : Pos} {T id : String} {r : V → List V → Hp → VK → Prop} (pa : PlainAttrs T) (slot : Slot T name id) (hty : typeOf (.builtin id) = pure (.type "method_descriptor")) (hm : MtR X id r) (ho : L2.PE X o to)
    (hbase : attributeBase o name X.env (eval o X.env) = eval o X.env) (hline : (apos.endLine == cpos.line) = true) : L2.PE X (.Call (.Attribute o name apos) [] [] cpos) (fun σ H Q => to σ H fun x H1 => tyW X T x H1 ∧ r x [] H1 Q) := by
  refine ⟨fun pins s σ H Q I h => ?_⟩
  refine wpAny_Call_method0_late hbase hline (thn (ho.run pins s σ H _ I h) fun v s1 ⟨x, H1, I1, r1, ty, q1⟩ => ?_)
  obtain ⟨h1, h2⟩ := tyW_is I1 r1 ty
  exact ⟨T, id, pa, slot, hty, h1, h2, Calls.callWith_builtin rfl (PySem.evalArgs_none (hm pins s1 σ H1 x [] v [] Q I1 r1 .nil q1))⟩
theorem recv_ty {m : Mth} {d : D} {v : V} {fp : List Addr} {H : Hp} {μ : List Addr} {S : Sto} (ok : StOk (tOf X C) H μ S) (r : Rep (tOf X C) H μ d v fp) (h : recvOk m d S = true) : tyW X (mTy m) v H := by
  have ls : (listOf S d).isSome = true → tyW X "list" v H := fun h => by
    obtain ⟨ds, e⟩ := Option.isSome_iff_exists.mp h
    obtain ⟨a, vs, f1, rfl, sq, _⟩ := list_at ok r e
    exact .inl (.inl ⟨rfl, vs, sq⟩)
  cases m with
  | append => exact ls h
  | pop => exact ls h
  | extend => exact ls h
  | join =>
    cases d with
    | str z => obtain ⟨rfl, _⟩ := r; exact .inl rfl
    | _ => cases h
  | upper =>
    cases d with
    | str z => obtain ⟨rfl, _⟩ := r; exact .inl rfl
    | _ => cases h
  | get =>
    have dcase : ∀ {ks vs}, dictOf S d = some (ks, vs) → tyW X "dict" v H := fun e => by
      obtain ⟨a, us, f1, rfl, ⟨kvs, q, _⟩, _⟩ := dict_at ok r e
      exact .inl (.inr (.inr (.inl ⟨rfl, .inl ⟨kvs, q⟩⟩)))
    rcases Bool.or_eq_true_iff.mp (show ((dictOf S d).isSome || (ndOf S d).isSome) = true from h) with h | h
    · obtain ⟨⟨ks, vs⟩, e⟩ := Option.isSome_iff_exists.mp h
      exact dcase e
    · obtain ⟨⟨ks, vs⟩, e⟩ := Option.isSome_iff_exists.mp h
      unfold ndOf at e
      split at e
      · obtain ⟨a, xs, f1, rfl, ⟨q, _⟩, _⟩ := r
        exact .inr ⟨rfl, a, _, _, rfl, q⟩
      · exact dcase rfl
      · rename_i n
        split at e
        · rename_i hS
          obtain ⟨a, rfl, hm, rfl⟩ := r
          obtain ⟨xs, ⟨q, _⟩, _⟩ := ok.at_ _ _ a hS hm
          exact .inr ⟨rfl, a, _, _, rfl, q⟩
        · rename_i hS
          exact dcase (ks := []) (vs := []) (by unfold dictOf; simp only [hS])
        · cases e
      · cases e
  | split =>
    cases d with
    | str z => obtain ⟨rfl, _⟩ := r; exact .inl rfl
    | _ => cases h
  | startswith =>
    cases d with
    | str z => obtain ⟨rfl, _⟩ := r; exact .inl rfl
    | _ => cases h
  | partition =>
    cases d with
    | str z => obtain ⟨rfl, _⟩ := r; exact .inl rfl
    | _ => cases h
theorem mth_fin {m : Mth} {d : D} {v : V} {f1 : List Addr} {S1 : Sto} {H H1 : Hp} {μ μ1 : List Addr} {σ : Slots} {Q : VK} (p1 : Pst (tOf X C) H μ d S1 v H1 μ1 f1) {ds : List D} {S2 : Sto} {vs : List V} {H2 : Hp} {μ2 f2 : List Addr} (p2 : Psts (tOf X C) H1 μ1 ds S2 vs H2 μ2 f2)
    (k : Ran (tOf X C) W σ H μ ((mthE m d ds S2).map fun r => R.ok r.1 r.2) (Fin1 (tOf X C) H μ Q)) : rMth (tOf X C) m v vs H2 Q := by
  obtain ⟨⟨z, S'⟩, e, k1⟩ := k.map
  have r1 : Rep (tOf X C) H2 μ2 d v f1 := Rep.keep p1.ok.kinds p2.stp d v f1 p1.rep (nd_out p1.nd)
  have nd := nd_step p2.stp p1.nd p2.nd (Rep.there d v f1 p1.rep) p2.new
  have s12 := p1.stp.trans p2.stp
  have nw : ∀ a ∈ f1 ++ f2, H a = none := fun a m => (List.mem_append.mp m).elim (p1.new a) fun m => p1.stp.free (p2.new a m)
  exact ⟨d, ds, S2, μ2, f1, f2, z, S', r1, p2.rep, p2.ok, nd, e, fun v' H' μ' fp' s ok r nd' ow => k1 v' H' μ' fp' ⟨StpO.of s12 nw (nd_out nd) s, ok, r, nd', fun a m => (ow a m).elim (nw a) s12.free⟩⟩
theorem s_mth {m : Mth} {apos : Pos} (G : Good C W n g cc X) (ho : L2.PE X x (tEv (tOf X C) W g a)) (ha : PA X ys (tEvs (tOf X C) W g es)) (hs : ys.all noStar = true) (hes : es.length = ys.length) (hx : noCall0 x = true) (hl : ys.length < 20) (hln : (apos.endLine == p.line) = true) :
    L2.PE X (.Call (.Attribute x (mNm m) apos) ys [] p) (tEv (tOf X C) W g (.mth m a es)) := by
  obtain ⟨m1, m2, m3⟩ := mSlot m
  have hu : X.A.units + 20 < cLine := by have := G.units; omega
  cases ys with
  | nil =>
    refine PE.mono (pe_bm0W m1 m2 m3 (mt_d (C := C) hu m) ho (attr_base hx) hln) fun σ H Q ⟨ρ, S, μ, env, st, h⟩ => ?_
    unfold evalE at h
    refine ev1 env st h.bnd fun d S1 v H1 μ1 f1 p1 k => ?_
    by_cases hr : recvOk m d S1 = true
    case neg => rw [if_neg hr] at k; exact k.elim
    rw [if_pos hr] at k
    refine ⟨recv_ty p1.ok p1.rep hr, ?_⟩
    have hes' : es = [] := List.eq_nil_of_length_eq_zero hes
    subst hes'
    unfold evalEs at k
    have p2 : Psts (tOf X C) H1 μ1 [] S1 [] H1 μ1 [] := ⟨Stp.refl, p1.ok, ⟨rfl, rfl⟩, by simpa using p1.ok.nd, by simp⟩
    exact mth_fin p1 p2 k
  | cons y ys =>
    rw [List.all_cons, Bool.and_eq_true] at hs
    have hfew : ((backTo p (starEach (y :: ys) X.env)).all (fun x => !x.1) && (backToKw p (keywordEach [] X.env)).all (fun x => x.1.isSome) && decide ((y :: ys).length + ([] : List Keyword).length + (if ([] : List Keyword).isEmpty then 0 else 1) < 30)) = true := by
      rw [stars_all (by rw [List.all_cons, hs.1, hs.2]; rfl)]
      simp only [Bool.true_and, Bool.and_eq_true, decide_eq_true_eq]
      refine ⟨rfl, ?_⟩
      show (y :: ys).length + 0 + 0 < 30
      omega
    refine PE.mono (pe_bmW m1 m2 m3 (mt_d (C := C) hu m) ho ha (attr_base hx) hfew hln (star_of hs.1) (stars_none hs.2)) fun σ H Q ⟨ρ, S, μ, env, st, h⟩ => ?_
    unfold evalE at h
    refine ev1 env st h.bnd fun d S1 v H1 μ1 f1 p1 k => ?_
    by_cases hr : recvOk m d S1 = true
    case neg => rw [if_neg hr] at k; exact k.elim
    rw [if_pos hr] at k
    refine ⟨recv_ty p1.ok p1.rep hr, ?_⟩
    exact ⟨ρ, S1, μ1, env.keep st.kinds p1.stp, p1.ok, (k.bnd.on p1.stp).imp fun ds S2 _ k2 vs H2 μ2 f2 p2 => mth_fin p1 p2 k2⟩
/-! ### isinstance -/
theorem s_cls (G : Good C W n g cc X) {t : Ty} {x : Expr} (h : chkTy cc t x = true) : L2.PE X x (tC (clsV C t)) ∧ noStar x = true := by
  cases x with
  | Name nm q =>
    unfold chkTy at h
    obtain ⟨h1, h2⟩ := Bool.and_eq_true_iff.mp h
    obtain ⟨g1, g2, g3⟩ := G.gl h1
    refine ⟨?_, rfl⟩
    cases t with
    | cls c => exact pe_glob g1 (G.cls c nm (of_decide_eq_true h2)).1 rfl g2
    | int => obtain ⟨b1, b2, b3, b4, b5⟩ := boot_ty C .int (fun c h => nomatch h); have e := of_decide_eq_true h2; subst e; exact pe_bltn g1 (G.free _ b3) b1 b2 b4 b5
    | str => obtain ⟨b1, b2, b3, b4, b5⟩ := boot_ty C .str (fun c h => nomatch h); have e := of_decide_eq_true h2; subst e; exact pe_bltn g1 (G.free _ b3) b1 b2 b4 b5
    | tuple => obtain ⟨b1, b2, b3, b4, b5⟩ := boot_ty C .tuple (fun c h => nomatch h); have e := of_decide_eq_true h2; subst e; exact pe_bltn g1 (G.free _ b3) b1 b2 b4 b5
    | list => obtain ⟨b1, b2, b3, b4, b5⟩ := boot_ty C .list (fun c h => nomatch h); have e := of_decide_eq_true h2; subst e; exact pe_bltn g1 (G.free _ b3) b1 b2 b4 b5
    | dict => obtain ⟨b1, b2, b3, b4, b5⟩ := boot_ty C .dict (fun c h => nomatch h); have e := of_decide_eq_true h2; subst e; exact pe_bltn g1 (G.free _ b3) b1 b2 b4 b5
    | bool => obtain ⟨b1, b2, b3, b4, b5⟩ := boot_ty C .bool (fun c h => nomatch h); have e := of_decide_eq_true h2; subst e; exact pe_bltn g1 (G.free _ b3) b1 b2 b4 b5
    | valueError => obtain ⟨b1, b2, b3, b4, b5⟩ := boot_ty C .valueError (fun c h => nomatch h); have e := of_decide_eq_true h2; subst e; exact pe_bltn g1 (G.free _ b3) b1 b2 b4 b5
  | _ => cases h
theorem pa_cls (G : Good C W n g cc X) : ∀ (ts : List Ty) (xs : List Expr), all2 (chkTy cc) ts xs = true → PA X xs (fun σ H Q => Q (ts.map (clsV C)) H)
  | [], [], _ => pa_nil
  | [], _ :: _, h => by cases h
  | _ :: _, [], h => by cases h
  | t :: ts, x :: xs, h => by
    obtain ⟨h1, h2⟩ := Bool.and_eq_true_iff.mp (show (chkTy cc t x && all2 (chkTy cc) ts xs) = true from h)
    obtain ⟨c1, c2⟩ := s_cls G h1
    exact pa_cons c1 (pa_cls G ts xs h2) (star_of c2)
theorem s_isi {ts : List Ty} {t : Expr} (G : Good C W n g cc X) (hg : glob cc.sc "isinstance" = true) (hne : ts ≠ []) (ha : L2.PE X y (tEv (tOf X C) W g a)) (hy : noStar y = true) (ht : noStar t = true)
    (hts : (∃ t0, ts = [t0] ∧ chkTy cc t0 t = true) ∨ ∃ xs k q, t = .Tuple xs k q ∧ all2 (chkTy cc) ts xs = true ∧ xs.length ≤ 1000) : L2.PE X (.Call (.Name "isinstance" p') [y, t] [] p) (tEv (tOf X C) W g (.isi a ts)) := by
  obtain ⟨g1, g2, g3⟩ := G.gl hg
  have hm := G.free "isinstance" (by decide +kernel)
  have hst : [y, t].all noStar = true := by simp [hy, ht]
  have base : ∀ {tt : TE}, L2.PE X t tt → L2.PE X (.Call (.Name "isinstance" p') [y, t] [] p) (tCB (rIsD (tOf X C) g.isa ts) (tCons (tEv (tOf X C) W g a) (tCons tt tNil))) := fun {tt} h =>
    pe_callB (call_isD G.ec ts hne) g1 hm PyProof.Rows.boot_isinstance (pa_cons ha (pa_cons h pa_nil (star_of ht)) (star_of hy)) g3 g2 (star_of hy) (stars_none (es := [t]) (by simpa using ht))
  rcases hts with ⟨t0, rfl, h0⟩ | ⟨xs, k, q, rfl, h0, hl⟩
  · refine PE.mono (base (s_cls G h0).1) fun σ H Q ⟨ρ, S, μ, env, st, h⟩ => ?_
    unfold evalE at h
    refine ev1 env st h.bnd fun d S1 v H1 μ1 f1 p1 k => ?_
    obtain ⟨bb, e1, k1⟩ := k.map
    exact ⟨d, S1, μ1, f1, v, bb, p1.rep, p1.ok, e1, fin_scal p1 k1 ⟨rfl, rfl⟩, .inl ⟨t0, rfl, rfl⟩⟩
  · refine PE.mono (base (pe_tup (pa_cls G ts xs h0))) fun σ H Q ⟨ρ, S, μ, env, st, h⟩ => ?_
    unfold evalE at h
    refine ev1 env st h.bnd fun d S1 v H1 μ1 f1 p1 k => ?_
    obtain ⟨bb, e1, k1⟩ := k.map
    have hlen : (ts.map (clsV C)).length ≤ sizeLine := by
      have : ∀ (ts : List Ty) (xs : List Expr), all2 (chkTy cc) ts xs = true → ts.length = xs.length := fun ts => by
        induction ts with
        | nil => intro xs h; cases xs with | nil => rfl | cons _ _ => cases h
        | cons t ts ih => intro xs h; cases xs with | nil => cases h | cons x xs => rw [List.length_cons, List.length_cons, ih xs (Bool.and_eq_true_iff.mp h).2]
      rw [List.length_map, this ts xs h0]
      exact Nat.le_trans hl (by decide)
    refine ⟨hlen, fun q nq => ?_⟩
    have sm : Same H1 (upd H1 q (.tup (ts.map (clsV C)))) := Same.upd nq
    refine ⟨d, S1, μ1, f1, v, bb, Rep.same sm _ _ _ p1.rep, StOk.same sm p1.ok, e1, ?_, .inr ⟨q, rfl, upd_same⟩⟩
    exact k1 _ _ μ1 [] (Pst.flat (p1.stp.trans (Same.stp sm)) (StOk.same sm p1.ok) ⟨rfl, rfl⟩)
end
end Ev
end
section
set_option Elab.async false
set_option linter.all false
set_option maxRecDepth 100000
namespace Ev
open PySem PySem.Spec PyProof.Rows L2 PySem.SeqAt
def W0 : WX := fun _ _ _ _ => False
/-! ### the tests of a comprehension -/
def tEvI (T : Pgm) (W : WX) (g : G) (es : List PE) : TT := fun σ H Q => ∃ ρ S μ, EnvOk T H μ σ ρ ∧ StOk T H μ S ∧ Ran T W σ H μ (evalIfs g es ρ S) (FinB T H μ Q)
section
variable {X : Cx} {C : Nat → Addr} {W : WX} {n : Nat} {g : G} {cc : CC} {a b c : PE} {x y z : Expr} {p p' : Pos} {es : List PE} {ys : List Expr}
theorem PTs.mono {ifs : List Expr} {t t' : TT} (h : PTs X ifs t) (m : ∀ σ H Q, t' σ H Q → t σ H Q) : PTs X ifs t' := ⟨fun pins s σ H Q I q => h.run pins s σ H Q I (m σ H Q q)⟩
theorem ifs_nil : PTs X [] (tEvI (tOf X C) W g []) := by
  refine PTs.mono pts_nil fun σ H Q ⟨ρ, S, μ, env, st, h⟩ => ?_
  unfold evalIfs at h
  exact h H μ Stp.refl st
theorem ifs_one (h : PT X x (tEvT (tOf X C) W g a)) : PTs X [x] (tEvI (tOf X C) W g [a]) := by
  refine PTs.mono (pts_one h) fun σ H Q ⟨ρ, S, μ, env, st, h⟩ => ?_
  unfold evalIfs at h
  refine evT1 env st h.tests fun t S1 H1 μ1 s ok k => ?_
  cases t with
  | true =>
    rw [if_pos rfl] at k
    unfold evalIfs at k
    exact k H1 μ1 s ok
  | false =>
    rw [if_neg (by decide)] at k
    exact k H1 μ1 s ok
end
/-! ### the slots of its own -/
def wipeE (ρ : Env) : List Nat → Env
  | [] => ρ
  | v :: vs => (wipeE ρ vs).set v none
theorem EnvOk.wipe {T : Pgm} {H : Hp} {μ : List Addr} {σ : Slots} {ρ : Env} (h : EnvOk T H μ σ ρ) : ∀ vs : List Nat, EnvOk T H μ (L2.wipe σ vs) (wipeE ρ vs)
  | [] => h
  | v :: vs => EnvOk.drop (EnvOk.wipe h vs)
theorem wipe_set {σ : L2.St} {i : Nat} {x : Option V} {vs : List Nat} : i ∈ vs → wipe (σ.set i x) vs = wipe σ vs := by
  induction vs with
  | nil => intro h; cases h
  | cons j vs ih =>
    intro h
    unfold wipe
    by_cases hj : i ∈ vs
    · rw [ih hj]
    · have hij : i = j := (List.mem_cons.mp h).resolve_right hj
      subst hij
      have comm : ∀ (vs : List Nat) (σ : L2.St), i ∉ vs → wipe (σ.set i x) vs = (wipe σ vs).set i x := fun vs => by
        induction vs with
        | nil => intro σ _; rfl
        | cons k vs ihv =>
          intro σ hk
          unfold wipe
          have h1 : i ≠ k := fun e => hk (by rw [e]; exact List.mem_cons_self)
          rw [ihv σ fun m => hk (List.mem_cons_of_mem _ m), List.set_comm _ _ h1]
      rw [comm vs σ hj, List.set_set]
theorem setNames_set : ∀ (is : List Nat) (ds : List D) (ρ : Env) (j : Nat) (x : Option D), j ∈ is → setNames is ds (ρ.set j x) = setNames is ds ρ
  | [], _, _, _, _, m => by cases m
  | i :: is, [], _, _, _, _ => rfl
  | i :: is, d :: ds, ρ, j, x, m => by
    show setNames is ds ((ρ.set j x).set i (some d)) = setNames is ds (ρ.set i (some d))
    by_cases e : j = i
    · subst e; rw [List.set_set]
    · rw [List.set_comm _ _ e]
      exact setNames_set is ds _ j x ((List.mem_cons.mp m).resolve_left e)
theorem setNames_wipe (is : List Nat) (ds : List D) (ρ : Env) : ∀ vs : List Nat, (∀ v ∈ vs, v ∈ is) → setNames is ds (wipeE ρ vs) = setNames is ds ρ
  | [], _ => rfl
  | v :: vs, h => by
    unfold wipeE
    rw [setNames_set is ds _ v none (h v List.mem_cons_self)]
    exact setNames_wipe is ds ρ vs fun u m => h u (List.mem_cons_of_mem _ m)
theorem setTg_wipe (tg : Tg) (d : D) (ρ : Env) (S : Sto) : setTg tg d (wipeE ρ (tgIs tg)) S = setTg tg d ρ S := by
  cases tg with
  | nm i =>
    show some (((ρ.set i none).set i _), _) = some (ρ.set i _, _)
    rw [List.set_set]
  | tp is =>
    cases d with
    | tup ds =>
      show (setNames is (settles ds S).1 (wipeE ρ is)).map _ = (setNames is (settles ds S).1 ρ).map _
      rw [setNames_wipe is _ ρ is fun v m => m]
    | _ => rfl
section
variable {T : Pgm} {H : Hp} {μ : List Addr} {S : Sto}
theorem StOk.upd1 {N : Addr} {xs ys : List V} (h : StOk T H μ S) (hN : H N = some (.lst xs)) (n : N ∉ μ) : StOk T (L2.upd H N (.lst ys)) μ S := ⟨h.len, h.nd, fun i d a h1 h2 => by
  have q := h.at_ i d a h1 h2
  have hne : a ≠ N := fun e => n (by rw [← e]; exact List.mem_iff_getElem?.mpr ⟨i, h2⟩)
  cases d with
  | lst ds => obtain ⟨vs, e, r⟩ := q; exact ⟨vs, by rw [upd_ne hne]; exact e, Reps.upd1 hN r (by simp)⟩
  | dct ks ds => obtain ⟨us, e, r⟩ := q; exact ⟨us, DictAt.keep (upd_ne hne) e, Reps.upd1 hN r (by simp)⟩
  | nd ks ds => obtain ⟨xs, e, rk, r⟩ := q; exact ⟨xs, ⟨by rw [upd_ne hne]; exact e.1, e.2⟩, Reps.upd1 hN rk (by simp), Reps.upd1 hN r (by simp)⟩
  | _ => exact q.elim⟩
theorem guardS_some {α : Type} {lk : Option (Nat × List D)} {x : Option α} {y : α} (h : guardS lk S x = some y) : stays lk S ∧ x = some y := by
  unfold guardS at h
  split at h
  · exact ⟨by assumption, h⟩
  · cases h
end
section
variable {X : Cx} {C : Nat → Addr} {W : WX} {n : Nat} {g : G} {cc : CC}
/-- how things lie ahead of turn i -/
def LcI (T : Pgm) (Gw : Nat → Hp → List Addr → Prop) (H : Hp) (μ : List Addr) (H1 : Hp) (N : Addr) (lk : Option (Nat × List D)) (f : D → Sto → Option (R (Option D))) (its out : List D) (Sf : Sto) (i m : Nat) (Hc : Hp) : Prop :=
  i + m = its.length ∧ ∃ S' μ' acc vs fp rest, StOk T Hc μ' S' ∧ Stp H μ Hc μ' ∧ Gw i Hc μ' ∧ Hc N = some (.lst vs) ∧ Reps T Hc μ' acc vs fp ∧ (μ' ++ (fp ++ [N])).Nodup ∧ (∀ a ∈ fp, H a = none ∧ H1 a = none) ∧
    (∀ b o, H1 b = some o → ∃ o', Hc b = some o') ∧ acc.length ≤ i ∧ compL lk f (its.drop i) S' = some (rest, Sf) ∧ out = acc ++ rest
theorem lc_blk {scope : Scope} {own : List (Str × Nat)} (G : Good C W n g cc X) (hb : blkC cc.N cc.sc scope own = true) : BlkOk X.N X.env.scope scope own := by
  have b := blkOk_by hb
  rw [G.hN]
  refine ⟨b.kind, b.uniq, b.ix, fun y hy e => ?_, b.own⟩
  rcases b.free y hy e with h | h <;> obtain ⟨k', h1, h2⟩ := G.sc.look _ _ h
  · rcases h2 with rfl | ⟨z, _⟩
    · exact .inl h1
    · cases z
  · rcases h2 with rfl | ⟨_, rfl⟩
    · exact .inr h1
    · exact .inl h1
theorem lc_read {tg : Tg} {k : ItK} {es ifs : List PE} {elt : PE} {vs : List Nat} (ho : vs = tgIs tg) {σ : L2.St} {H : Hp} {Q : VK} (hx : tEv (tOf X C) W g (.comp tg k es ifs elt) σ H Q) :
    tLc (tIt (tOf X C) W g k es) (gTg (tOf X C) tg) (tEvI (tOf X C) W0 g ifs) (tEv (tOf X C) W0 g elt) vs σ H Q := by
  obtain ⟨ρ, S, μ, env, st, h⟩ := hx
  rw [ho]
  unfold evalE at h
  refine ⟨ρ, S, μ, env, st, h.bnd.imp fun ds S1 _ k1 => ?_⟩
  cases hit : itemsOf S1 k ds with
  | none => rw [hit] at k1; exact k1.elim
  | some q0 =>
    obtain ⟨its, lk⟩ := q0
    rw [hit] at k1
    obtain ⟨⟨out, Sf⟩, e1, k2⟩ := k1.map
    refine ⟨its, lk, rfl, fun J H1 μ1 s1 ok1 bg N nN => ?_⟩
    obtain ⟨Gw, wk, g0, gup⟩ := bg.new N nN
    have hHN : H N = none := s1.free nN
    have nm1 : N ∉ μ1 := fun m => by rcases ok1.kinds N m with ⟨_, z⟩ | ⟨_, z⟩ | ⟨_, z⟩ <;> (rw [nN] at z; cases z)
    generalize hf : (fun d S => match setTg tg d ρ S with
        | some (ρ', S) => bnd (evalIfs g ifs ρ' S) fun b S => if b = true then bnd (evalE g elt ρ' S) fun x S => some (R.ok (some x) S) else some (R.ok none S)
        | none => none) = f at e1
    refine ⟨LcI (tOf X C) Gw H μ H1 N lk f its out Sf, ⟨its.length, by simp, S1, μ1, [], [], [], out, StOk.same (Same.upd nN) ok1, s1.trans (Stp.upd nN), g0, upd_same, ⟨rfl, rfl⟩, ?_, by simp, fun b o e => ⟨o, Same.upd nN b o e⟩, Nat.zero_le _, e1, rfl⟩, fun i m Hc ⟨him, S', μ', acc, vs, fp, rest, okc, sc, gc, hN, rs, nd, nw, dm, hac, hcl, hout⟩ => ?_⟩
    · refine List.nodup_append.mpr ⟨ok1.nd, by simp, fun a ha b hb e => ?_⟩
      have : b = N := by simpa using hb
      subst this; subst e; exact nm1 ha
    by_cases hil : its.length ≤ i
    · left
      rw [List.drop_eq_nil_of_le hil] at hcl
      obtain ⟨h1, h2⟩ := guardS_some (show guardS lk S' (some ([], S')) = some (rest, Sf) from hcl)
      cases h2
      refine ⟨wk.stop i Hc μ' _ hil gc okc h1, ?_⟩
      rw [List.append_nil] at hout
      subst hout
      refine k2 _ Hc μ' (fp ++ [N]) ⟨sc, okc, ⟨N, vs, fp, rfl, hN, rs, rfl⟩, nd, fun a m => ?_⟩
      rcases List.mem_append.mp m with m | m
      · exact (nw a m).1
      · have : a = N := by simpa using m
        subst this; exact hHN
    · right
      have hil' : i < its.length := by omega
      rw [List.drop_eq_getElem_cons hil'] at hcl
      obtain ⟨hst, hcl2⟩ := guardS_some (show guardS lk S' (bndN (f its[i] S') fun x S => (compL lk f (its.drop (i + 1)) S).map fun r => (match x with | some y => y :: r.1 | none => r.1, r.2)) = some (rest, Sf) from hcl)
      obtain ⟨jgo, jit⟩ := wk.item i its[i] Hc μ' S' (List.getElem?_eq_getElem hil') gc okc hst
      refine ⟨jgo, fun H' => LcI (tOf X C) Gw H μ H1 N lk f its out Sf (i + 1) (m - 1) H', fun H' h => ⟨m - 1, by omega, h⟩, fun v H' yl => ?_⟩
      obtain ⟨sm, f1, r1, nd1, nw1, g1⟩ := jit v H' yl
      rw [← hf] at hcl2
      cases est : setTg tg its[i] ρ S' with
      | none => simp only [est, bndN_none] at hcl2; cases hcl2
      | some q =>
        obtain ⟨ρ2, S2⟩ := q
        simp only [est] at hcl2
        rw [hf] at hcl2
        have hN' : H' N = some (.lst vs) := sm N _ hN
        have nf1 : ∀ a ∈ f1, a ∉ fp ++ [N] := fun a m m2 => by
          obtain ⟨_, o, ho⟩ := nw1 a m
          rcases List.mem_append.mp m2 with m2 | m2
          · rw [(nw a m2).2] at ho; cases ho
          · have : a = N := by simpa using m2
            subst this; rw [nN] at ho; cases ho
        have nda : ((μ' ++ f1) ++ (fp ++ [N])).Nodup := by
          obtain ⟨n1, n2, n3⟩ := List.nodup_append.mp nd
          refine List.nodup_append.mpr ⟨nd1, n2, fun a ha b hb e => ?_⟩
          subst e
          rcases List.mem_append.mp ha with ha | ha
          · exact n3 a ha a hb rfl
          · exact nf1 a ha hb
        have kf1 : Kinds H' f1 := Rep.kinds _ _ _ r1
        have sca : Stp H μ H' (μ' ++ f1) := Stp.own (own := []) (sc.trans (Same.stp sm)) fun a m => (nw1 a m).1
        have rsa : Reps (tOf X C) H' (μ' ++ f1) acc vs fp := Reps.widen kf1 _ _ _ (Reps.same sm _ _ _ rs)
        have nNa : N ∉ μ' ++ f1 := fun m => nd_out nda N (by simp) m
        have env' : EnvOk (tOf X C) H' μ' (L2.wipe σ (tgIs tg)) (wipeE ρ (tgIs tg)) := (env.keep st.kinds (sc.trans (Same.stp sm))).wipe _
        refine setTg_ok env' (StOk.same sm okc) r1 nd1 (by rw [setTg_wipe]; exact est) fun σ2 env2 ok2 hw => ⟨?_, ?_⟩
        · rw [hw (tgIs tg) fun _ m => m]
          have wipe_idem : ∀ vs : List Nat, ∀ ws : List Nat, (∀ v ∈ ws, v ∈ vs) → L2.wipe (L2.wipe σ ws) vs = L2.wipe σ vs := fun vs ws => by
            induction ws with
            | nil => intro _; rfl
            | cons w ws ih =>
              intro h
              rw [← ih fun v m => h v (List.mem_cons_of_mem _ m)]
              exact wipe_set (h w List.mem_cons_self)
          exact wipe_idem _ _ fun _ m => m
        cases eif : evalIfs g ifs ρ2 S2 with
        | none => rw [eif] at hcl2; simp only [bnd_none, bndN_none] at hcl2; cases hcl2
        | some rb =>
          cases rb with
          | ex c3 S3 => rw [eif] at hcl2; simp only [bnd_ex, bndN_ex] at hcl2; cases hcl2
          | ok b S3 =>
            rw [eif] at hcl2
            simp only [bnd_ok] at hcl2
            refine ⟨ρ2, S2, μ' ++ f1, env2, ok2, ?_⟩
            rw [eif]
            intro H3 μ3 s3 ok3
            have hN3 : H3 N = some (.lst vs) := s3.fr _ _ hN' nNa
            have nN3 : N ∉ μ3 := (s3.out N _ hN' nNa).1
            have g3 : Gw (i + 1) H3 μ3 := wk.keep _ _ _ _ _ g1 ok2.kinds s3 ok3.nd
            cases b with
            | false =>
              rw [if_neg (by decide)]
              simp only [Bool.false_eq_true, if_false, bndN_ok] at hcl2
              obtain ⟨⟨rest', Sf'⟩, ec, er⟩ := Option.map_eq_some_iff.mp hcl2
              cases er
              refine ⟨by omega, S3, μ3, acc, vs, fp, rest', ok3, sca.trans s3, g3, hN3, Reps.keep ok2.kinds s3 _ _ _ rsa fun a m => nd_out nda a (List.mem_append_left _ m), ?_, nw, fun b o e => ?_, by omega, ec, hout⟩
              · have := nd_step (f2 := []) s3 nda (by simpa using ok3.nd) (fun a m => (List.mem_append.mp m).elim (Reps.there _ _ _ rsa a) fun m => by
                  have : a = N := by simpa using m
                  subst this; exact ⟨_, hN'⟩) (by simp)
                simpa using this
              · obtain ⟨o1, e1⟩ := dm b o e
                exact s3.dom b o1 (sm _ _ e1)
            | true =>
              rw [if_pos rfl]
              simp only [if_true] at hcl2
              cases eel : evalE g elt ρ2 S3 with
              | none => rw [eel] at hcl2; simp only [bnd_none, bndN_none] at hcl2; cases hcl2
              | some rx =>
                cases rx with
                | ex c4 S4 => rw [eel] at hcl2; simp only [bnd_ex, bndN_ex] at hcl2; cases hcl2
                | ok x S4 =>
                  rw [eel] at hcl2
                  simp only [bnd_ok, bndN_ok] at hcl2
                  obtain ⟨⟨rest', Sf'⟩, ec, er⟩ := Option.map_eq_some_iff.mp hcl2
                  cases er
                  refine ⟨ρ2, S3, μ3, env2.keep ok2.kinds s3, ok3, ?_⟩
                  rw [eel]
                  intro w H4 μ4 f4 p4
                  have s34 := s3.trans p4.stp
                  have hN4 : H4 N = some (.lst vs) := p4.stp.fr _ _ hN3 nN3
                  have nN4 : N ∉ μ4 := (p4.stp.out N _ hN3 nN3).1
                  have there : ∀ a ∈ fp ++ [N], ∃ o, H' a = some o := fun a m => (List.mem_append.mp m).elim (Reps.there _ _ _ rsa a) fun m => by
                    have : a = N := by simpa using m
                    subst this; exact ⟨_, hN'⟩
                  have nd4 : (μ4 ++ ((fp ++ [N]) ++ f4)).Nodup := nd_step s34 nda p4.nd there fun a m => s3.free (p4.new a m)
                  have nd5 : (μ4 ++ ((fp ++ f4) ++ [N])).Nodup := by
                    refine (List.Perm.nodup_iff (List.Perm.append_left μ4 ?_)).mp nd4
                    rw [List.append_assoc, List.append_assoc]
                    exact List.Perm.append_left fp List.perm_append_comm
                  have nNf : N ∉ fp ++ f4 := fun m => by
                    obtain ⟨_, n2, _⟩ := List.nodup_append.mp nd5
                    exact (List.nodup_append.mp n2).2.2 N m N (by simp) rfl
                  have rs4 : Reps (tOf X C) H4 μ4 acc vs fp := Reps.keep ok2.kinds s34 _ _ _ rsa fun a m => nd_out nda a (List.mem_append_left _ m)
                  have hsz : vs.length < sizeLine := by
                    have := Reps.len _ _ _ rs4
                    have := bg.len
                    omega
                  refine ⟨vs, hN4, hsz, by omega, S4, μ4, acc ++ [x], vs ++ [w], fp ++ f4, rest', StOk.upd1 p4.ok hN4 nN4, ?_, ?_, upd_same, ?_, nd5, fun a m => ?_, fun b o e => ?_, ?_, ec, by rw [hout]; simp⟩
                  · have s0 := sca.trans s34
                    refine ⟨s0.ext, fun b o e nb => ?_, fun b o e => ?_⟩
                    · rw [upd_ne (ne_of_none e hHN)]; exact s0.fr b o e nb
                    · rw [upd_ne (ne_of_none e hHN)]; exact s0.dom b o e
                  · exact gup _ _ _ _ _ (wk.keep _ _ _ _ _ g3 ok3.kinds p4.stp p4.ok.nd) nN4 hN4
                  · refine Reps.upd1 hN4 (Reps.append _ _ _ _ _ _ rs4 ⟨w, [], f4, [], rfl, p4.rep, ⟨rfl, rfl⟩, by simp⟩) nNf
                  · rcases List.mem_append.mp m with m | m
                    · exact nw a m
                    · have n4 : H' a = none := s3.free (p4.new a m)
                      refine ⟨sca.free n4, ?_⟩
                      cases e : H1 a with
                      | none => rfl
                      | some o =>
                        obtain ⟨o1, e1⟩ := dm a o e
                        rw [sm _ _ e1] at n4; cases n4
                  · by_cases hb : b = N
                    · subst hb; exact ⟨_, upd_same⟩
                    · rw [upd_ne hb]
                      obtain ⟨o1, e1⟩ := dm b o e
                      exact s34.dom b o1 (sm _ _ e1)
                  · rw [List.length_append]; show acc.length + 1 ≤ i + 1; omega
theorem s_comp {tg : Tg} {k : ItK} {es ifs : List PE} {elt : PE} {y tgx iter : Expr} {ifsx : List Expr} {scope : Scope} {p : Pos} (G : Good C W n g cc X)
    (hi : PI X tgx iter (tIt (tOf X C) W g k es)) (hs : noSet iter = true) (ht : chkTg { cc with sc := scope, top := false } tg tgx = true) (ho : (ownOf tg tgx).map (·.2) = tgIs tg) (hb : blkC cc.N cc.sc scope (ownOf tg tgx) = true)
    (hif : ∀ (s : Shared) (H : Hp) (A : Addr) (cl : List (Str × Addr)) (fp : List Addr), PTs (X.blk s H scope (compEnvC scope cl A X.env) fp) ifsx (tEvI (tOf X C) W0 g ifs))
    (he : ∀ (s : Shared) (H : Hp) (A : Addr) (cl : List (Str × Addr)) (fp : List Addr), L2.PE (X.blk s H scope (compEnvC scope cl A X.env) fp) y (tEv (tOf X C) W0 g elt)) :
    L2.PE X (.ListComp y [⟨tgx, iter, ifsx, 0⟩] scope p) (tEv (tOf X C) W g (.comp tg k es ifs elt)) := by
  have hg : ∀ (s : Shared) (H : Hp) (A : Addr) (cl : List (Str × Addr)) (fp : List Addr), PG (X.blk s H scope (compEnvC scope cl A X.env) fp) tgx (gTg (tOf X C) tg) := fun s H A cl fp => pg_tg (G.blk scope s H A cl fp) ht
  exact PE.mono (pe_lc G.calm (by rw [G.hN]; exact G.nd) hi (lc_blk G hb) hg hif he (folded hs)) fun σ H Q h => lc_read ho h
/-- name = [..] -/
theorem s_setC {i : Nat} {nm : Str} {py spos : Pos} {tg : Tg} {k : ItK} {es ifs : List PE} {elt : PE} {y tgx iter : Expr} {ifsx : List Expr} {scope : Scope} {p : Pos} (G : Good C W n g cc X) (hn : chkNm cc i (.Name nm py) = true)
    (hi : PI X tgx iter (tIt (tOf X C) W g k es)) (hs : noSet iter = true) (ht : chkTg { cc with sc := scope, top := false } tg tgx = true) (ho : (ownOf tg tgx).map (·.2) = tgIs tg) (hb : blkC cc.N cc.sc scope (ownOf tg tgx) = true)
    (hif : ∀ (s : Shared) (H : Hp) (A : Addr) (cl : List (Str × Addr)) (fp : List Addr), PTs (X.blk s H scope (compEnvC scope cl A X.env) fp) ifsx (tEvI (tOf X C) W0 g ifs))
    (he : ∀ (s : Shared) (H : Hp) (A : Addr) (cl : List (Str × Addr)) (fp : List Addr), L2.PE (X.blk s H scope (compEnvC scope cl A X.env) fp) y (tEv (tOf X C) W0 g elt)) :
    L2.PS X (.Assign [.Name nm py] (.ListComp y [⟨tgx, iter, ifsx, 0⟩] scope p) spos) (tAsg (tEv (tOf X C) W g (.comp tg k es ifs elt)) (gName i)) := by
  have hg : ∀ (s : Shared) (H : Hp) (A : Addr) (cl : List (Str × Addr)) (fp : List Addr), PG (X.blk s H scope (compEnvC scope cl A X.env) fp) tgx (gTg (tOf X C) tg) := fun s H A cl fp => pg_tg (G.blk scope s H A cl fp) ht
  obtain ⟨h1, h2⟩ := Bool.and_eq_true_iff.mp (show (decide (cc.N[i]? = some nm) && loc cc.sc nm) = true from hn)
  have h1' : X.N[i]? = some nm := by rw [G.hN]; exact of_decide_eq_true h1
  have hN : X.N.Nodup := by rw [G.hN]; exact G.nd
  cases hsw : (X.env.blockKind == .function && X.env.kindOf nm == some .local && py.line == p.line && !(scope.names.any fun (n, k) => n == nm && (k == .local || k == .cell))) with
  | true =>
    have hl : X.env.scope.names.lookup nm = some .local := by
      simp only [Bool.and_eq_true] at hsw
      exact eq_of_beq hsw.1.1.2
    have sw : swapsWith (.ListComp y [⟨tgx, iter, ifsx, 0⟩] scope p) (some (.Name nm py)) spos.line X.env = pure true := by
      show (pure (X.env.blockKind == .function && X.env.kindOf nm == some .local && py.line == p.line && !(scope.names.any fun (n, k) => n == nm && (k == .local || k == .cell))) : Sem Bool) = pure true
      rw [hsw]
    have base := ps_setLc (py := py) (spos := spos) (pos := p) G.calm hN h1' hl sw hi (lc_blk G hb) hg hif he (folded hs)
    exact ⟨fun pins s σ H D I h => base.run pins s σ H D I (lc_read ho h)⟩
  | false =>
    have sw : swapsWith (.ListComp y [⟨tgx, iter, ifsx, 0⟩] scope p) (some (.Name nm py)) spos.line X.env = pure false := by
      show (pure (X.env.blockKind == .function && X.env.kindOf nm == some .local && py.line == p.line && !(scope.names.any fun (n, k) => n == nm && (k == .local || k == .cell))) : Sem Bool) = pure false
      rw [hsw]
    exact ps_set hN h1' (G.sc.loc h2) (s_comp G hi hs ht ho hb hif he) sw (G.fn nm h2)
end
end Ev
end
section
set_option Elab.async false
set_option linter.all false
set_option maxRecDepth 100000
namespace Ev
open PySem PySem.Spec PyProof.Rows L2 PySem.SeqAt
/-! ### a comprehension out of which an error leaves -/
theorem note_fr {u : Value} {e1 e2 : PySem.Env} (h : e1.frame = e2.frame) : noteFrame u e1 = noteFrame u e2 := by
  unfold noteFrame PySem.frameOf
  rw [h]
theorem pass_fr {α : Type} {wh : String} {u : Value} {e1 e2 : PySem.Env} (h : e1.frame = e2.frame) : (PySem.passOn wh u e1 : Sem α) = PySem.passOn wh u e2 := by
  unfold PySem.passOn
  rw [h]
theorem frames_but {b0 b1 h0 h1 : Heap} : ∀ {l : List PySem.Env}, h0.FunFrames b0 l → (∀ L ∈ frs l, b1.get? L = none) → (∀ L ∈ frs l, h1.get? L = h0.get? L) → h1.FunFrames b1 l
  | [], _, _, _ => trivial
  | en :: l, x, y, z => by
    obtain ⟨k, ⟨L, o, hf, _, ho, hd⟩, r⟩ := x
    have m : L ∈ frs (en :: l) := List.mem_filterMap.mpr ⟨en, List.mem_cons_self, hf⟩
    have up : ∀ L' ∈ frs l, L' ∈ frs (en :: l) := fun L' hm => by
      obtain ⟨e', he', q⟩ := List.mem_filterMap.mp hm
      exact List.mem_filterMap.mpr ⟨e', List.mem_cons_of_mem _ he', q⟩
    exact ⟨k, ⟨L, o, hf, y L m, (z L m).trans ho, hd⟩, frames_but r (fun L' hm => y L' (up L' hm)) fun L' hm => z L' (up L' hm)⟩
section
variable {M : Model} {A : Around} {E : Value → Shared → Prop} {s : Shared} {Z : Obj → Prop} {base : Heap} {env : PySem.Env} {outer : List PySem.Env} {L L' e : Addr}
/-- noted elsewhere, noted here -/
theorem looks_other {Q : Unit → Shared → Prop} (hZ : PXN.Steady1 Z) (hfr : A.frames = some (env :: outer)) (hf : env.frame = some L) (hne : L' ≠ L) (hh : HandSPX.HeldZ base (env :: outer) e Z L' s.heap)
    (hQ : ∀ h', HandSPX.HeldZ base (env :: outer) e Z L h' → s.heap.UpToSlots h' → Q () { s with heap := h' }) : wpAny M A (noteFrame (.ref e) env) Q E s := by
  obtain ⟨g1, g2, g3, oe, vs, T, oT, ts, he, hz, hd, e1, nT, nTe, hT, hdT, e3⟩ := hh
  have apart : ∀ b, b ≠ T → (s.heap.update T (Obj.mapFields (·.setIfInBounds 3 Value.none))).get? b = s.heap.get? b := fun b q => Heap.get?_update_other _ _ (Ne.symm q)
  have noF : ∀ b o, s.heap.get? b = some o → (∀ vs, o.data ≠ .fields vs) → b ≠ T := fun b o hb nf q => by
    subst q
    rw [hT] at hb; cases hb
    exact nf ts hdT
  unfold noteFrame
  simp only [hf]
  refine wpAny_bind (wpAny_field he hd e1 ?_)
  rw [if_pos (by simp : (Value.ref T != Value.none) = true)]
  refine wpAny_bind (wpAny_field hT hdT e3 ?_)
  have ne : ¬ ((rawInt L' == rawInt L) = true) := by
    intro q
    have := eq_of_beq q
    unfold rawInt at this
    simp at this
    exact hne (Int.ofNat_inj.mp this)
  rw [if_neg ne]
  refine wpAny_bind (wpAny_setField hT hdT (Array.getElem?_eq_some_iff.mp e3).1 ?_)
  have fr : (s.heap.update T (Obj.mapFields (·.setIfInBounds 3 Value.none))).FunFrames base (env :: outer) := g3.of_keeps fun b o hb nf => ⟨o, (apart b (noF b o hb nf)).trans hb, rfl⟩
  have st : base.StaysIn (s.heap.update T (Obj.mapFields (·.setIfInBounds 3 Value.none))) := fun b o q => (apart b fun z => by rw [z, nT] at q; cases q).trans (g1 b o q)
  refine PXN.wpAny_entryZ hZ hfr fr hf ((apart e (Ne.symm nTe)).trans he) st g2 hd (Array.getElem?_eq_some_iff.mp e1).1 hz fun h' ⟨x1, x2, x3, x4⟩ => ?_
  exact hQ h' ⟨x1, g2, x2, x3⟩ fun b o hb nf => x4 b o ((apart b (noF b o hb nf)).trans hb) nf
end
section
variable {M : Model} {A : Around} {E : Value → Shared → Prop} {s : Shared} {env : PySem.Env}
/-- behind the block: as in the library where nothing is raised; else the error is passed on by the block's own frame -/
def cPost (M : Model) (A : Around) (E : Value → Shared → Prop) (use : Option (Value → Sem Unit)) (Q : Value → Shared → Prop) (acc : Value) (ce : PySem.Env) : Result → Shared → Prop
  | .ok f, s' => compPost M A E use Q acc ce.locals (.ok f) s'
  | .error u, s' => ∃ m, s'.heap.Ns ce.locals m ∧ ∀ h', Heap.SameBut ce.locals s'.heap h' → wpAny M A (PySem.passOn "comprehension.variables-let-go" u ce : Sem Value) (fun _ _ => False) E { s' with heap := h' }
theorem comp_x {e : Expr} {scope : Scope} {pos : Pos} {newAcc first : Sem Value} {c0 : Comprehension} {cs : List Comprehension} {cl : List (Str × Addr)} {use : Option (Value → Sem Unit)} {Q : Value → Shared → Prop}
    (h1 : clausesOf e = c0 :: cs) (h2 : ∀ x, foldedSetIterable c0.iter env x = pure x) (h3 : closureFor scope env = pure cl) (h4 : scope.kind = .function) (h5 : ∀ x ∈ scope.names, x.2 = .local → scope.names.lookup x.1 = some .local)
    (h : wpAny M A first (fun x s1 => wpAny M A (pyIter x) (fun it s2 => wpAny M A newAcc (fun acc s3 => wpAny M A (newFunctionEnv scope env.globals cl [] env.qual none .none (some env)) (fun ce s4 =>
      codeAny M A (.compStart e 0 it acc { ce with scope := relabel scope env }) (cPost M A E use Q acc { ce with scope := relabel scope env }) s4) E s3) E s2) E s1) E s) :
    wpAny M A (comprehension e scope env pos newAcc false first use) Q E s := by
  unfold comprehension
  rw [h3, h1]
  refine wpAny_bind (wpAny_mono h (fun x s1 k1 => ?_) fun _ _ z => z)
  refine wpAny_bind (wpAny_standAt (wpAny_bind (wpAny_of_eq (h2 x) (wpAny_bind (wpAny_holding (wpAny_mono k1 (fun it s2 k2 => ?_) fun _ _ z => z))))))
  refine wpAny_standIf (wpAny_bind (wpAny_mono k2 (fun acc s3 k3 => ?_) fun _ _ z => z))
  refine wpAny_bind (wpAny_pure (wpAny_bind (wpAny_mono k3 (fun ce s4 k4 => ?_) fun _ _ z => z)))
  dsimp only
  have v1 : ∀ x ∈ (scope.names.filter fun x => (x.2 == .local || x.2 == .cell) && x.1 != (".0" : Str)).reverse, x.2 = .local → Env.kindOf { ce with scope := relabel scope env } x.1 = some .local := fun x hx hl =>
    lookup_relabel_local (h5 x (List.mem_filter.mp (List.mem_reverse.mp hx)).1 hl)
  refine wpAny_holding (wpAny_bind (wpAny_attempt (wpAny_holding (wpAny_run (codeAny_mono k4 fun r s' hr => ?_)))))
  cases r with
  | error u =>
    obtain ⟨m, hn, hr⟩ := hr
    exact wpAny_bind (wpAny_holding (wpAny_comp_letGo (cenv := { ce with scope := relabel scope env }) h4 _ s' m v1 hn fun h' m' _ sb => wpAny_mono (hr h' sb) (fun _ _ z => z.elim) fun _ _ z => z))
  | ok f =>
    cases use with
    | none =>
      obtain ⟨m, hn, hr⟩ := hr
      exact wpAny_bind (wpAny_holding (wpAny_comp_letGo (cenv := { ce with scope := relabel scope env }) h4 _ s' m v1 hn fun h' m' _ sb => wpAny_pure (hr h' sb)))
    | some u =>
      refine wpAny_bind (wpAny_rule (wpAny_bind (wpAny_holding (wpAny_mono hr (fun _ s5 ⟨m, hn, hr5⟩ => ?_) fun _ _ z => z))))
      refine wpAny_bind (wpAny_comp_letGo (cenv := { ce with scope := relabel scope env }) h4 _ s5 m (fun x hx hl => ?_) hn fun h' m' _ sb => wpAny_pure (hr5 h' sb))
      rcases List.mem_append.mp hx with z | z
      · exact v1 x (List.mem_of_mem_drop z) hl
      · exact v1 x (List.mem_of_mem_take z) hl
end
section
variable {X : Cx} {W : WX} {md : Bool}
/-- what the block lets out is taken by the def -/
theorem blk_tk {pins : List (Addr × Obj)} {σ : L2.St} {H3 : Hp} {s3 : Shared} {scope : Scope} {ce : PySem.Env} {fp : List Addr} {E0 E1 : Value → Shared → Prop} (tk : Tk md X W) (O : Own X) (I3 : Inv X pins σ H3 s3) (f3 : ∀ b ∈ fp, FpOk X pins H3 b) (cL : ce.locals = s3.heap.objs.size)
    (hE : ∀ u s', wpAny (model X.prog X.w) X.A (noteFrame u X.env) (fun _ s2 => ∃ m, s2.heap.Ns ce.locals m ∧ ∀ h', Heap.SameBut ce.locals s2.heap h' → wpAny (model X.prog X.w) X.A (PySem.passOn "comprehension.variables-let-go" u X.env : Sem Value) (fun _ _ => False) X.xe { s2 with heap := h' }) E1 s' → E0 u s') :
    Tk md ((X.blk s3 H3 scope ce fp).tr [] E0) (fun c d _ H' => W c d σ H') := by
  rintro u s' ⟨a, B, sI, ps, σ1, H1, cls, d, rfl, J, nb, up, sky, na, os, ag, w⟩
  refine hE _ _ ?_
  have hfr : X.A.frames = some (X.env :: X.outer) := by rw [I3.ok.frames, O.hs]
  have nb : ∀ b o, sI.heap.get? b = some o → b ∉ frs X.stack → B.get? b = some o := nb
  have sky : Sky B (X.env :: X.outer) a (Zm md cls d) ce.locals s'.heap := by rw [← O.hs]; exact sky
  have nC : H1 ce.locals = none := J.free
  have fC : FpOk X pins H1 ce.locals := by
    rw [cL] at nC ⊢
    exact I3.fpOk (Nat.le_refl _) nC
  have Jb : Inv X pins σ H1 sI := I3.call' (ch := fp) J.os J.base J.hok J.bare fun b hb => ⟨(f3 b hb).2.2.2.1, (f3 b hb).2.1, (f3 b hb).2.2.2.2.1, (f3 b hb).2.2.2.2.2⟩
  have nFr : ∀ b ∈ frs (X.env :: X.outer), b ≠ ce.locals := fun b hb z => by
    have hb' : b ∈ frs X.stack := by rw [O.hs]; exact hb
    rcases List.mem_cons.mp (I3.stkSub b hb') with q | q
    · exact fC.2.1 (z.symm.trans q)
    · exact fC.2.2.1 (by rw [← z]; exact q)
  have fin : ∀ h1, HandSPX.HeldZ B (X.env :: X.outer) a (Zm md cls d) X.env.locals h1 → s'.heap.UpToSlots h1 → (fun (_ : Unit) (s2 : Shared) => ∃ m, s2.heap.Ns ce.locals m ∧ ∀ h', Heap.SameBut ce.locals s2.heap h' →
      wpAny (model X.prog X.w) X.A (PySem.passOn "comprehension.variables-let-go" (.ref a) X.env : Sem Value) (fun _ _ => False) X.xe { s2 with heap := h' }) () { s' with heap := h1 } := by
    intro h1 hh up1
    have J1 := J.landed (s' := { s' with heap := h1 }) nb hh.1 (up.trans up1) os ag
    obtain ⟨m, hn, _⟩ := J1.loc
    refine ⟨m, hn, fun h2 sb => ?_⟩
    obtain ⟨on, es, ep, gC, dC, _⟩ := hn
    have gC : h1.get? ce.locals = some on := gC
    obtain ⟨k1, k2, k3, oe, vs, T, oT, ts, he, hz, hd, e1, nT, nTe, hT, hdT, e3⟩ := hh
    have aC : a ≠ ce.locals := fun z => by
      rw [z, gC] at he; cases he
      rw [dC] at hd; cases hd
    have TC : T ≠ ce.locals := fun z => by
      rw [z, gC] at hT; cases hT
      rw [dC] at hdT; cases hdT
    obtain ⟨G, g1, g2⟩ := restrict sI.heap fun b => decide (b ≠ ce.locals)
    obtain ⟨B', b1, b2⟩ := restrict B fun b => decide (b ≠ ce.locals)
    have inG : ∀ b o, G.get? b = some o → b ≠ ce.locals ∧ sI.heap.get? b = some o := fun b o q => by
      by_cases z : b = ce.locals
      · rw [g2 b (by simp [z])] at q; cases q
      · exact ⟨z, by rw [← g1 b (by simp [z])]; exact q⟩
    have inB : ∀ b o, B'.get? b = some o → b ≠ ce.locals ∧ B.get? b = some o := fun b o q => by
      by_cases z : b = ce.locals
      · rw [b2 b (by simp [z])] at q; cases q
      · exact ⟨z, by rw [← b1 b (by simp [z])]; exact q⟩
    have noB : ∀ b, B.get? b = none → B'.get? b = none := fun b q => by
      cases z : B'.get? b with
      | none => rfl
      | some o => rw [(inB b o z).2] at q; cases q
    have Jt : Inv X pins σ H1 { sI with heap := G, toks := sI.toks } := Jb.turned (fun b o hb q => by rw [g1 b (by simp [hb])]; exact q) fC.1 fC.2.1 fC.2.2.2.1 fC.2.2.2.2.1 fC.2.2.2.2.2
    have sb2 : ∀ b, b ≠ ce.locals → h2.get? b = h1.get? b := fun b hb => sb.2 b hb
    have held : HandSPX.HeldZ B' (X.env :: X.outer) a (Zm md cls d) X.env.locals h2 := by
      refine ⟨fun b o q => (sb2 b (inB b o q).1).trans (k1 b o (inB b o q).2), noB a k2, frames_but k3 (fun L hm => noB L (k3.mem hm).1) fun L hm => sb2 L (nFr L hm), oe, vs, T, oT, ts, (sb2 a aC).trans he, hz, hd, e1, noB T nT, nTe, (sb2 T TC).trans hT, hdT, e3⟩
    unfold PySem.passOn
    refine wpAny_bind (wpAny_field ((sb2 a aC).trans he) hd e1 ?_)
    rw [if_neg (show ¬ ((Value.ref T == Value.none) = true) from by simp)]
    have on : wpAny (model X.prog X.w) X.A (setFlight (.ref a) X.env.frame) (fun _ s4 => wpAny (model X.prog X.w) X.A (throw (.ref a) : Sem Value) (fun _ _ => False) X.xe s4) X.xe { s' with heap := h2 } := by
      rw [O.hf]
      refine HandSPX.setFlight_onZ held fun h4 hh4 up4 => wpAny_throw (tk _ _ ⟨a, B', { sI with heap := G, toks := sI.toks }, pins, σ, H1, cls, d, rfl, Jt, fun b o q nb' => ?_, fun b o q nf => ?_, .inr (.inr (by rw [O.hs]; exact hh4)), na, os, ag, w⟩)
      · obtain ⟨z1, z2⟩ := inG b o q
        rw [b1 b (by simp [z1])]
        exact nb b o z2 nb'
      · obtain ⟨z1, z2⟩ := inG b o q
        obtain ⟨sl, y1⟩ := (up.trans up1) b o z2 nf
        obtain ⟨sl', y2⟩ := up4 b { o with slots := sl } ((sb2 b z1).trans y1) nf
        exact ⟨sl', y2⟩
    first
      | exact wpAny_bind (wpAny_pure (wpAny_bind on))
      | exact wpAny_bind on
  rcases sky with ⟨hB, hn, hl, oe, vs, he, hz, hd, h1⟩ | fl | hd
  · exact PXN.look_newZ Zm.steady hfr hl O.hf he hB hn hd h1 hz fin
  · exact PXN.looks_onZ Zm.steady hfr O.hf fl fin
  · exact looks_other Zm.steady hfr O.hf (fun z => fC.2.1 z) hd fin
end
end Ev
end
section
set_option Elab.async false
set_option linter.all false
set_option maxRecDepth 100000
namespace Ev
open PySem PySem.Spec PyProof.Rows L2 PySem.SeqAt
section
variable {X : Cx} {md : Bool} {W : WX}
/-- the block of a list comprehension, its errors those of the def -/
theorem lc_coreX {pins : List (Addr × Obj)} {s : Shared} {σ : L2.St} {H : Hp} {Q : VK} {elt tg iter : Expr} {ifs : List Expr} {scope : Scope} {own : List (Str × Nat)} {pos pos' : Pos} {wi : TI} {g : TG} {tt : WX → TT} {te : WX → TE} {use : Option (Value → Sem Unit)} {Qf : Value → Shared → Prop}
    (hc : X.calm = true) (hN : X.N.Nodup) (tk : Tk md X W) (O : Own X) (I : Inv X pins σ H s) (hi : PI X tg iter wi) (ok : BlkOk X.N X.env.scope scope own)
    (hg : ∀ (s : Shared) (H : Hp) (C : Addr) (cl : List (Str × Addr)) (fp : List Addr) (xe : Value → Shared → Prop), PG ((X.blk s H scope (compEnvC scope cl C X.env) fp).tr [] xe) tg g)
    (ht : ∀ (Wb : WX) (s : Shared) (H : Hp) (C : Addr) (cl : List (Str × Addr)) (fp : List Addr) (xe : Value → Shared → Prop), Tk md ((X.blk s H scope (compEnvC scope cl C X.env) fp).tr [] xe) Wb → PTs ((X.blk s H scope (compEnvC scope cl C X.env) fp).tr [] xe) ifs (tt Wb))
    (he : ∀ (Wb : WX) (s : Shared) (H : Hp) (C : Addr) (cl : List (Str × Addr)) (fp : List Addr) (xe : Value → Shared → Prop), Tk md ((X.blk s H scope (compEnvC scope cl C X.env) fp).tr [] xe) Wb → L2.PE ((X.blk s H scope (compEnvC scope cl C X.env) fp).tr [] xe) elt (te Wb))
    (hs : ∀ x, foldedSetIterable iter X.env x = pure x) (h : tLc wi g (tt fun c d _ H' => W c d σ H') (te fun c d _ H' => W c d σ H') (own.map (·.2)) σ H Q)
    (hRR : ∀ D C s' m H', Inv X pins σ H' s' → Q (.ref D) H' → s'.heap.Ns C m → FpOk X pins H' C → compPost (model X.prog X.w) X.A X.xe use Qf (.ref D) C (.ok .next) s') :
    wpAny (model X.prog X.w) X.A (comprehension (.ListComp elt [⟨tg, iter, ifs, 0⟩] scope pos) scope X.env pos' (newList []) false (eval iter X.env) use) Qf X.xe s := by
  have hfree : ∀ y ∈ scope.names, y.2 = .free → ∃ c, X.env.cells.lookup y.1 = some c := fun y hy e => (ok.free y hy e).elim (fun k => I.ok.has _ (.inl k)) fun k => I.ok.has _ (.inr k)
  refine comp_x (use := use) rfl hs (closure_ok hfree) ok.kind (fun y hy e => by rw [ok.uniq y hy, e]) (thn (hi.run pins s σ H _ I h) fun _ _ z => thn z fun itv s2 h2 => ?_)
  obtain ⟨it, fp, tn, J, H2, rfl, I2, T, st2, f2, q⟩ := h2
  refine wpAny_newObj_type (newEnv_comp ?_) (by show 0 ≤ sizeLine; decide)
  generalize hD : s2.heap.objs.size = D
  have hDn : H2 D = none := I2.hok.fresh (Nat.le_of_eq hD)
  obtain ⟨Wt, ⟨m0, w0⟩, turn⟩ := q D hDn
  generalize hs3 : ({ s2 with heap := s2.heap.push { cls := .type "list", data := .seq ([] : List Value).toArray } } : Shared) = s3
  have h3 : s3.heap = s2.heap.push { cls := .type "list", data := .seq ([] : List Value).toArray } := by rw [← hs3]
  have I3 : Inv X pins σ (upd H2 D (.lst [])) s3 := by
    rw [← hs3]
    refine I2.laid (t' := s2.toks) (fun b o z => Heap.get?_push_of_some _ z) (Nat.le_of_eq hD) ⟨Nat.zero_le _, [], 0, .nil, ?_⟩
    rw [← hD]; exact Heap.get?_push_size _ rfl
  have f3 : ∀ b ∈ fp, FpOk X pins (upd H2 D (.lst [])) b ∧ b < s3.heap.objs.size := fun b hb => by
    obtain ⟨o, z, _⟩ := T.obj _ _ st2 b hb
    have hlt := Heap.lt_size z
    refine ⟨⟨?_, (f2 b hb).2⟩, by rw [h3, Heap.size_push]; exact Nat.lt_succ_of_lt hlt⟩
    rw [upd_ne (by rw [← hD]; exact Nat.ne_of_lt hlt)]; exact (f2 b hb).1
  have st3 : tn 0 s3.heap := T.keep _ _ _ st2 fun b _ o z => by rw [h3]; exact Heap.get?_push_of_some _ z
  have I4 := block_start I3 ok hN f3
  have pg := hg s3 (upd H2 D (.lst [])) s3.heap.objs.size (cellsFrom (s3.heap.objs.size + 1) scope.names (cloFrom X.env.cells scope.names [])) fp
  have pt := fun Wb => ht Wb s3 (upd H2 D (.lst [])) s3.heap.objs.size (cellsFrom (s3.heap.objs.size + 1) scope.names (cloFrom X.env.cells scope.names [])) fp
  have pe := fun Wb => he Wb s3 (upd H2 D (.lst [])) s3.heap.objs.size (cellsFrom (s3.heap.objs.size + 1) scope.names (cloFrom X.env.cells scope.names [])) fp
  show codeAny _ _ (.compStart (.ListComp elt [⟨tg, iter, ifs, 0⟩] scope pos) 0 (.ref it) (.ref D) (compEnvC scope (cellsFrom (s3.heap.objs.size + 1) scope.names (cloFrom X.env.cells scope.names [])) s3.heap.objs.size X.env))
    (cPost (model X.prog X.w) X.A X.xe use Qf (.ref D) (compEnvC scope (cellsFrom (s3.heap.objs.size + 1) scope.names (cloFrom X.env.cells scope.names [])) s3.heap.objs.size X.env)) { s3 with heap := pushCells (s3.heap.push { cls := .type "dict", data := .dict #[] }) scope.names }
  have nfp : ∀ b ∈ fp, (upd H2 D (.lst [])) b = none := fun b hb => (f3 b hb).1.1
  generalize hce : compEnvC scope (cellsFrom (s3.heap.objs.size + 1) scope.names (cloFrom X.env.cells scope.names [])) s3.heap.objs.size X.env = ce at I4 pg pt pe ⊢
  have cL : ce.locals = s3.heap.objs.size := by subst hce; rfl
  have cF : ce.frame = X.env.frame := by subst hce; rfl
  generalize hH3 : upd H2 D (.lst []) = H3 at I3 I4 pg pt pe w0 nfp f3
  generalize hs4 : ({ s3 with heap := pushCells (s3.heap.push { cls := .type "dict", data := .dict #[] }) scope.names } : Shared) = s4 at I4 ⊢
  have st4 : tn 0 s4.heap := T.keep _ _ _ st3 fun b _ o z => by rw [← hs4]; exact pushCells_keeps _ _ _ _ (Heap.get?_push_of_some _ z)
  generalize hE0 : notedBy (model X.prog X.w) X.A ce (fun u s' => cPost (model X.prog X.w) X.A X.xe use Qf (.ref D) ce (.error u) s') = E0
  -- the errors of the block
  have tkb : Tk md ((X.blk s3 H3 scope ce fp).tr [] E0) (fun c d _ H' => W c d σ H') := by
    refine blk_tk (E1 := fun u s' => cPost (model X.prog X.w) X.A X.xe use Qf (.ref D) ce (.error u) s') tk O I3 (fun b hb => (f3 b hb).1) cL fun u s' z => ?_
    rw [← hE0]
    show wpAny _ _ (noteFrame u ce) _ _ _
    rw [note_fr cF]
    refine wpAny_mono z (fun _ s2 ⟨m, hn, k⟩ => ⟨m, hn, fun h' sb => ?_⟩) fun _ _ y => y
    rw [pass_fr cF]
    exact k h' sb
  have I4' : Inv ((X.blk s3 H3 scope ce fp).tr [] E0) [] (wipe σ (own.map (·.2))) H3 s4 := I4.toTry E0
  have stat : ∀ {σ' : L2.St} {H' : Hp} {s' : Shared}, Inv ((X.blk s3 H3 scope ce fp).tr [] E0) [] σ' H' s' → (∀ b ∈ fp, H' b = none) → ∀ b ∈ fp, FpOk ((X.blk s3 H3 scope ce fp).tr [] E0) [] H' b := fun {σ' H' s'} I' hn b hb =>
    ⟨hn b hb, (I'.ok.exf b hb).1, I'.ok.exfs b hb, .inl hb, fun x c z => (I'.ok.exf b hb).2 x c z, fun p hp => absurd (show p ∈ ([] : List (Addr × Obj)) ++ [] from hp) (by simp)⟩
  have loop : codeAny (model X.prog X.w) X.A (.compLoop (.ListComp elt [⟨tg, iter, ifs, 0⟩] scope pos) 0 (.ref it) (.ref D) ce) (cPost (model X.prog X.w) X.A X.xe use Qf (.ref D) ce) s4 := by
    refine compLoop_any (fun n s' => ∃ i H', Inv ((X.blk s3 H3 scope ce fp).tr [] E0) [] (wipe σ (own.map (·.2))) H' s' ∧ tn i s'.heap ∧ (∀ b ∈ fp, H' b = none) ∧ Wt i n H') ?_ m0 ⟨0, H3, I4', st4, nfp, w0⟩
    rintro n s5 ⟨i, H5, I5, st5, n5, w5⟩
    rw [hE0]
    rcases turn i n H5 w5 with ⟨stop, qq⟩ | ⟨go, Nx, hNx, step⟩
    · refine thnF (T.done ((X.blk s3 H3 scope ce fp).tr [] E0) rfl rfl rfl hc i [] s5 _ H5 (fun _ _ => False) I5 (stat I5 n5) st5 stop) fun r s6 ⟨hr, I6⟩ => ?_
      subst hr
      have I7 : Inv X pins σ H5 s6 := I3.call' (ch := fp) I6.os I6.base I6.hok I6.bare fun b hb => ⟨(f3 b hb).1.2.2.2.1, (f3 b hb).1.2.1, (f3 b hb).1.2.2.2.2.1, (f3 b hb).1.2.2.2.2.2⟩
      have nC : H5 ce.locals = none := I6.free
      obtain ⟨m, hn, _⟩ := I6.loc
      have hn : s6.heap.Ns ce.locals m := hn
      show compPost (model X.prog X.w) X.A X.xe use Qf (.ref D) ce.locals (.ok .next) s6
      rw [cL] at nC hn ⊢
      exact hRR D s3.heap.objs.size s6 m H5 I7 qq hn (I3.fpOk (Nat.le_refl _) nC)
    · refine thnF (T.item ((X.blk s3 H3 scope ce fp).tr [] E0) rfl rfl rfl hc i [] s5 _ H5 (fun _ _ => False) I5 (stat I5 n5) st5 go) fun r s6 ⟨u, hr, h6⟩ => ?_
      subst hr
      refine thnF h6 fun _ s7 ⟨x, H7, I7, r7, y7, st7, n7⟩ => ?_
      refine thn ((pg E0).run _ s7 _ H7 x u _ (I7.pinned (stat I7 n7) (T.obj _ _ st7)) r7 (step x H7 y7)) fun _ s8 ⟨σ8, H8, I8, hw8, q8⟩ => ?_
      refine thn ((pt _ E0 tkb).run _ s8 σ8 H8 _ I8 q8) fun b s9 ⟨H9, I9, q9⟩ => ?_
      have fin : ∀ {s' : Shared} {H' : Hp}, Inv ((X.blk s3 H3 scope ce fp).tr [] E0) ([] ++ pinsAt fp s7.heap) σ8 H' s' → Nx H' → ∃ m, m < n ∧ ∃ i H', Inv ((X.blk s3 H3 scope ce fp).tr [] E0) [] (wipe σ (own.map (·.2))) H' s' ∧ tn i s'.heap ∧ (∀ b ∈ fp, H' b = none) ∧ Wt i m H' := fun {s' H'} I' nx => by
        obtain ⟨m', hm, w'⟩ := hNx H' nx
        have pin' : ∀ b ∈ fp, ∀ o, s7.heap.get? b = some o → s'.heap.get? b = some o ∧ H' b = none := fun b hb o z =>
          let y := I'.pin (b, o) (List.mem_append_right _ (List.mem_append_right _ (mem_pinsAt hb z)))
          ⟨y.1, y.2.1⟩
        have hl : (wipe σ (own.map (·.2))).length = σ8.length := by rw [← hw8, wipe_length]
        refine ⟨m', hm, i + 1, H', (I'.unpinned (pins := [])).weak hl (fun j v z => ?_), T.keep _ _ _ st7 fun b hb o z => (pin' b hb o z).1, fun b hb => ?_, w'⟩
        · rw [← hw8] at z
          exact (wipe_some z).1
        · obtain ⟨o, z, _⟩ := T.obj _ _ st7 b hb
          exact (pin' b hb o z).2
      cases b with
      | false =>
        simp only [Bool.false_eq_true, if_false] at q9 ⊢
        exact fin I9 q9
      | true =>
        simp only [if_true] at q9 ⊢
        refine thn ((pe _ E0 tkb).run _ s9 σ8 H9 _ I9 q9) fun z s10 ⟨yv, H10, I10, r10, acc, hD10, hz10, nx⟩ => ?_
        exact app_ok (X := (X.blk s3 H3 scope ce fp).tr [] E0) I10 hD10 hz10 r10 fun s11 I11 => fin I11 nx
  exact codeAny_compStart_list loop (T.self X.A 0 _ _ _ st4 loop)
end
/-! ### the reading -/
def pre (acc : List D) : R (List D) → R (List D)
  | .ok rest S => .ok (acc ++ rest) S
  | .ex c S => .ex c S
theorem bnd_one {q : R (List D)} {x : D} : bnd (some q) (fun r S => some (R.ok (x :: r) S)) = some (pre [x] q) := by cases q <;> rfl
theorem bnd_self {m : Option (R (List D))} : bnd m (fun r S => some (R.ok r S)) = m := by
  cases m with
  | none => rfl
  | some q => cases q <;> rfl
theorem pre_pre {a b : List D} {q : R (List D)} : pre a (pre b q) = pre (a ++ b) q := by cases q <;> simp [pre]
section
variable {X : Cx} {C : Nat → Addr} {W : WX} {n : Nat} {g : G} {cc : CC}
/-- how things lie ahead of turn i, an error handed on -/
def LcX (T : Pgm) (Gw : Nat → Hp → List Addr → Prop) (H : Hp) (μ : List Addr) (H1 : Hp) (N : Addr) (lk : Option (Nat × List D)) (f : D → Sto → Option (R (Option D))) (its : List D) (r0 : R (List D)) (i m : Nat) (Hc : Hp) : Prop :=
  i + m = its.length ∧ ∃ S' μ' acc vs fp q, StOk T Hc μ' S' ∧ Stp H μ Hc μ' ∧ Gw i Hc μ' ∧ Hc N = some (.lst vs) ∧ Reps T Hc μ' acc vs fp ∧ (μ' ++ (fp ++ [N])).Nodup ∧ (∀ a ∈ fp, H a = none ∧ H1 a = none) ∧
    (∀ b o, H1 b = some o → ∃ o', Hc b = some o') ∧ acc.length ≤ i ∧ compLX lk f (its.drop i) S' = some q ∧ r0 = pre acc q
theorem lc_readX {tg : Tg} {k : ItK} {es ifs : List PE} {elt : PE} {vs : List Nat} (ho : vs = tgIs tg) {σ : L2.St} {H : Hp} {Q : VK} (hx : tEv (tOf X C) W g (.compX tg k es ifs elt) σ H Q) :
    tLc (tIt (tOf X C) W g k es) (gTg (tOf X C) tg) (tEvI (tOf X C) (fun c d _ H' => W c d σ H') g ifs) (tEv (tOf X C) (fun c d _ H' => W c d σ H') g elt) vs σ H Q := by
  obtain ⟨ρ, S, μ, env, st, h⟩ := hx
  rw [ho]
  unfold evalE at h
  refine ⟨ρ, S, μ, env, st, h.bnd.imp fun ds S1 _ k1 => ?_⟩
  cases hit : itemsOf S1 k ds with
  | none => rw [hit] at k1; exact k1.elim
  | some q0 =>
    obtain ⟨its, lk⟩ := q0
    rw [hit] at k1
    have k2 := k1.bnd
    generalize hf : (fun d S => match setTg tg d ρ S with
        | some (ρ', S) => bnd (evalIfs g ifs ρ' S) fun b S => if b = true then bnd (evalE g elt ρ' S) fun x S => some (R.ok (some x) S) else some (R.ok none S)
        | none => none) = f at k2
    cases e1 : compLX lk f its S1 with
    | none => rw [e1] at k2; exact k2.elim
    | some r0 =>
    rw [e1] at k2
    refine ⟨its, lk, rfl, fun J H1 μ1 s1 ok1 bg N nN => ?_⟩
    obtain ⟨Gw, wk, g0, gup⟩ := bg.new N nN
    have hHN : H N = none := s1.free nN
    have nm1 : N ∉ μ1 := fun m => by rcases ok1.kinds N m with ⟨_, z⟩ | ⟨_, z⟩ | ⟨_, z⟩ <;> (rw [nN] at z; cases z)
    refine ⟨LcX (tOf X C) Gw H μ H1 N lk f its r0, ⟨its.length, by simp, S1, μ1, [], [], [], r0, StOk.same (Same.upd nN) ok1, s1.trans (Stp.upd nN), g0, upd_same, ⟨rfl, rfl⟩, ?_, by simp, fun b o e => ⟨o, Same.upd nN b o e⟩, Nat.zero_le _, e1, by cases r0 <;> rfl⟩, fun i m Hc ⟨him, S', μ', acc, vs, fp, q1, okc, sc, gc, hN, rs, nd, nw, dm, hac, hcl, hout⟩ => ?_⟩
    · refine List.nodup_append.mpr ⟨ok1.nd, by simp, fun a ha b hb e => ?_⟩
      have : b = N := by simpa using hb
      subst this; subst e; exact nm1 ha
    by_cases hil : its.length ≤ i
    · left
      rw [List.drop_eq_nil_of_le hil] at hcl
      obtain ⟨h1, h2⟩ := guardS_some (show guardS lk S' (some (.ok [] S')) = some q1 from hcl)
      cases h2
      refine ⟨wk.stop i Hc μ' _ hil gc okc h1, ?_⟩
      rw [show pre acc (R.ok [] S') = R.ok acc S' from by simp [pre]] at hout
      subst hout
      refine k2 _ Hc μ' (fp ++ [N]) ⟨sc, okc, ⟨N, vs, fp, rfl, hN, rs, rfl⟩, nd, fun a m => ?_⟩
      rcases List.mem_append.mp m with m | m
      · exact (nw a m).1
      · have : a = N := by simpa using m
        subst this; exact hHN
    · right
      have hil' : i < its.length := by omega
      rw [List.drop_eq_getElem_cons hil'] at hcl
      obtain ⟨hst, hcl2⟩ := guardS_some (show guardS lk S' (bnd (f its[i] S') fun x S => bnd (compLX lk f (its.drop (i + 1)) S) fun r S => some (.ok (match x with | some y => y :: r | none => r) S)) = some q1 from hcl)
      obtain ⟨jgo, jit⟩ := wk.item i its[i] Hc μ' S' (List.getElem?_eq_getElem hil') gc okc hst
      refine ⟨jgo, fun H' => LcX (tOf X C) Gw H μ H1 N lk f its r0 (i + 1) (m - 1) H', fun H' h => ⟨m - 1, by omega, h⟩, fun v H' yl => ?_⟩
      obtain ⟨sm, f1, r1, nd1, nw1, g1⟩ := jit v H' yl
      rw [← hf] at hcl2
      cases est : setTg tg its[i] ρ S' with
      | none => simp only [est, bnd_none] at hcl2; cases hcl2
      | some q =>
        obtain ⟨ρ2, S2⟩ := q
        simp only [est] at hcl2
        rw [hf] at hcl2
        have hN' : H' N = some (.lst vs) := sm N _ hN
        have nf1 : ∀ a ∈ f1, a ∉ fp ++ [N] := fun a m m2 => by
          obtain ⟨_, o, ho⟩ := nw1 a m
          rcases List.mem_append.mp m2 with m2 | m2
          · rw [(nw a m2).2] at ho; cases ho
          · have : a = N := by simpa using m2
            subst this; rw [nN] at ho; cases ho
        have nda : ((μ' ++ f1) ++ (fp ++ [N])).Nodup := by
          obtain ⟨n1, n2, n3⟩ := List.nodup_append.mp nd
          refine List.nodup_append.mpr ⟨nd1, n2, fun a ha b hb e => ?_⟩
          subst e
          rcases List.mem_append.mp ha with ha | ha
          · exact n3 a ha a hb rfl
          · exact nf1 a ha hb
        have kf1 : Kinds H' f1 := Rep.kinds _ _ _ r1
        have sca : Stp H μ H' (μ' ++ f1) := Stp.own (own := []) (sc.trans (Same.stp sm)) fun a m => (nw1 a m).1
        have rsa : Reps (tOf X C) H' (μ' ++ f1) acc vs fp := Reps.widen kf1 _ _ _ (Reps.same sm _ _ _ rs)
        have nNa : N ∉ μ' ++ f1 := fun m => nd_out nda N (by simp) m
        have env' : EnvOk (tOf X C) H' μ' (L2.wipe σ (tgIs tg)) (wipeE ρ (tgIs tg)) := (env.keep st.kinds (sc.trans (Same.stp sm))).wipe _
        refine setTg_ok env' (StOk.same sm okc) r1 nd1 (by rw [setTg_wipe]; exact est) fun σ2 env2 ok2 hw => ⟨?_, ?_⟩
        · rw [hw (tgIs tg) fun _ m => m]
          have wipe_idem : ∀ vs : List Nat, ∀ ws : List Nat, (∀ v ∈ ws, v ∈ vs) → L2.wipe (L2.wipe σ ws) vs = L2.wipe σ vs := fun vs ws => by
            induction ws with
            | nil => intro _; rfl
            | cons w ws ih =>
              intro h
              rw [← ih fun v m => h v (List.mem_cons_of_mem _ m)]
              exact wipe_set (h w List.mem_cons_self)
          exact wipe_idem _ _ fun _ m => m
        cases eif : evalIfs g ifs ρ2 S2 with
        | none => rw [eif] at hcl2; simp only [bnd_none] at hcl2; cases hcl2
        | some rb =>
          cases rb with
          | ex c3 S3 =>
            rw [eif] at hcl2; simp only [bnd_ex] at hcl2; cases hcl2
            have hout : r0 = R.ex c3 S3 := hout
            subst hout
            refine ⟨ρ2, S2, μ' ++ f1, env2, ok2, ?_⟩
            rw [eif]
            exact fun H3 μ3 s3 ok3 => k2 H3 μ3 (sca.trans s3) ok3
          | ok b S3 =>
            rw [eif] at hcl2
            simp only [bnd_ok] at hcl2
            refine ⟨ρ2, S2, μ' ++ f1, env2, ok2, ?_⟩
            rw [eif]
            intro H3 μ3 s3 ok3
            have hN3 : H3 N = some (.lst vs) := s3.fr _ _ hN' nNa
            have nN3 : N ∉ μ3 := (s3.out N _ hN' nNa).1
            have g3 : Gw (i + 1) H3 μ3 := wk.keep _ _ _ _ _ g1 ok2.kinds s3 ok3.nd
            cases b with
            | false =>
              rw [if_neg (by decide)]
              simp only [Bool.false_eq_true, if_false, bnd_ok] at hcl2
              have ec : compLX lk f (its.drop (i + 1)) S3 = some q1 := bnd_self.symm.trans hcl2
              refine ⟨by omega, S3, μ3, acc, vs, fp, q1, ok3, sca.trans s3, g3, hN3, Reps.keep ok2.kinds s3 _ _ _ rsa fun a m => nd_out nda a (List.mem_append_left _ m), ?_, nw, fun b o e => ?_, by omega, ec, hout⟩
              · have := nd_step (f2 := []) s3 nda (by simpa using ok3.nd) (fun a m => (List.mem_append.mp m).elim (Reps.there _ _ _ rsa a) fun m => by
                  have : a = N := by simpa using m
                  subst this; exact ⟨_, hN'⟩) (by simp)
                simpa using this
              · obtain ⟨o1, e1⟩ := dm b o e
                exact s3.dom b o1 (sm _ _ e1)
            | true =>
              rw [if_pos rfl]
              simp only [if_true] at hcl2
              cases eel : evalE g elt ρ2 S3 with
              | none => rw [eel] at hcl2; simp only [bnd_none] at hcl2; cases hcl2
              | some rx =>
                cases rx with
                | ex c4 S4 =>
                  rw [eel] at hcl2; simp only [bnd_ex] at hcl2; cases hcl2
                  have hout : r0 = R.ex c4 S4 := hout
                  subst hout
                  refine ⟨ρ2, S3, μ3, env2.keep ok2.kinds s3, ok3, ?_⟩
                  rw [eel]
                  exact fun H4 μ4 s4 ok4 => k2 H4 μ4 ((sca.trans s3).trans s4) ok4
                | ok x S4 =>
                  rw [eel] at hcl2
                  simp only [bnd_ok] at hcl2
                  cases ec : compLX lk f (its.drop (i + 1)) S4 with
                  | none => rw [ec] at hcl2; cases hcl2
                  | some q2 =>
                  rw [ec, bnd_one] at hcl2
                  cases hcl2
                  rw [pre_pre] at hout
                  refine ⟨ρ2, S3, μ3, env2.keep ok2.kinds s3, ok3, ?_⟩
                  rw [eel]
                  intro w H4 μ4 f4 p4
                  have s34 := s3.trans p4.stp
                  have hN4 : H4 N = some (.lst vs) := p4.stp.fr _ _ hN3 nN3
                  have nN4 : N ∉ μ4 := (p4.stp.out N _ hN3 nN3).1
                  have there : ∀ a ∈ fp ++ [N], ∃ o, H' a = some o := fun a m => (List.mem_append.mp m).elim (Reps.there _ _ _ rsa a) fun m => by
                    have : a = N := by simpa using m
                    subst this; exact ⟨_, hN'⟩
                  have nd4 : (μ4 ++ ((fp ++ [N]) ++ f4)).Nodup := nd_step s34 nda p4.nd there fun a m => s3.free (p4.new a m)
                  have nd5 : (μ4 ++ ((fp ++ f4) ++ [N])).Nodup := by
                    refine (List.Perm.nodup_iff (List.Perm.append_left μ4 ?_)).mp nd4
                    rw [List.append_assoc, List.append_assoc]
                    exact List.Perm.append_left fp List.perm_append_comm
                  have nNf : N ∉ fp ++ f4 := fun m => by
                    obtain ⟨_, n2, _⟩ := List.nodup_append.mp nd5
                    exact (List.nodup_append.mp n2).2.2 N m N (by simp) rfl
                  have rs4 : Reps (tOf X C) H4 μ4 acc vs fp := Reps.keep ok2.kinds s34 _ _ _ rsa fun a m => nd_out nda a (List.mem_append_left _ m)
                  have hsz : vs.length < sizeLine := by
                    have := Reps.len _ _ _ rs4
                    have := bg.len
                    omega
                  refine ⟨vs, hN4, hsz, by omega, S4, μ4, acc ++ [x], vs ++ [w], fp ++ f4, q2, StOk.upd1 p4.ok hN4 nN4, ?_, ?_, upd_same, ?_, nd5, fun a m => ?_, fun b o e => ?_, ?_, ec, hout⟩
                  · have s0 := sca.trans s34
                    refine ⟨s0.ext, fun b o e nb => ?_, fun b o e => ?_⟩
                    · rw [upd_ne (ne_of_none e hHN)]; exact s0.fr b o e nb
                    · rw [upd_ne (ne_of_none e hHN)]; exact s0.dom b o e
                  · exact gup _ _ _ _ _ (wk.keep _ _ _ _ _ g3 ok3.kinds p4.stp p4.ok.nd) nN4 hN4
                  · refine Reps.upd1 hN4 (Reps.append _ _ _ _ _ _ rs4 ⟨w, [], f4, [], rfl, p4.rep, ⟨rfl, rfl⟩, by simp⟩) nNf
                  · rcases List.mem_append.mp m with m | m
                    · exact nw a m
                    · have n4 : H' a = none := s3.free (p4.new a m)
                      refine ⟨sca.free n4, ?_⟩
                      cases e : H1 a with
                      | none => rfl
                      | some o =>
                        obtain ⟨o1, e1⟩ := dm a o e
                        rw [sm _ _ e1] at n4; cases n4
                  · by_cases hb : b = N
                    · subst hb; exact ⟨_, upd_same⟩
                    · rw [upd_ne hb]
                      obtain ⟨o1, e1⟩ := dm b o e
                      exact s34.dom b o1 (sm _ _ e1)
                  · rw [List.length_append]; show acc.length + 1 ≤ i + 1; omega
theorem Good.blkX {Wb : WX} (G : Good C W n g cc X) (scope : Scope) (s : Shared) (H : Hp) (A : Addr) (cl : List (Str × Addr)) (fp : List Addr) (xe : Value → Shared → Prop) (tk : Tk cc.md ((X.blk s H scope (compEnvC scope cl A X.env) fp).tr [] xe) Wb) :
    Good C Wb n g { cc with sc := scope, top := false } ((X.blk s H scope (compEnvC scope cl A X.env) fp).tr [] xe) :=
  have B := G.blk scope s H A cl fp
  ⟨B.calm, B.room, tk, B.hN, B.nd, B.sc, B.fn, B.ec, B.funs, B.funsN, (fun z => nomatch z), B.cls, B.con, B.free⟩
/-- [..], an error handed on -/
theorem s_compX {tg : Tg} {k : ItK} {es ifs : List PE} {elt : PE} {y tgx iter : Expr} {ifsx : List Expr} {scope : Scope} {p : Pos} (G : Good C W n g cc X) (O : Own X)
    (hi : PI X tgx iter (tIt (tOf X C) W g k es)) (hs : noSet iter = true) (ht : chkTg { cc with sc := scope, top := false } tg tgx = true) (ho : (ownOf tg tgx).map (·.2) = tgIs tg) (hb : blkC cc.N cc.sc scope (ownOf tg tgx) = true)
    (hif : ∀ (Wb : WX) (Y : Cx), Good C Wb n g { cc with sc := scope, top := false } Y → PTs Y ifsx (tEvI (tOf Y C) Wb g ifs))
    (he : ∀ (Wb : WX) (Y : Cx), Good C Wb n g { cc with sc := scope, top := false } Y → L2.PE Y y (tEv (tOf Y C) Wb g elt)) :
    L2.PE X (.ListComp y [⟨tgx, iter, ifsx, 0⟩] scope p) (tEv (tOf X C) W g (.compX tg k es ifs elt)) := by
  refine ⟨fun pins s σ H Q I h => ?_⟩
  rw [eval_ListComp]
  refine lc_coreX (tt := fun Wb => tEvI (tOf X C) Wb g ifs) (te := fun Wb => tEv (tOf X C) Wb g elt) G.calm (by rw [G.hN]; exact G.nd) G.tk O I hi (lc_blk G hb) (fun s H A cl fp xe => ?_) (fun Wb s H A cl fp xe tkb => ?_) (fun Wb s H A cl fp xe tkb => ?_) (folded hs) (lc_readX ho h) fun D A s' m H' I' q hn f => ⟨m, hn, fun h2 sb => ?_⟩
  · exact pg_tg (G.blkX scope s H A cl fp xe Tk.of0) ht
  · exact hif Wb _ (G.blkX scope s H A cl fp xe tkb)
  · exact he Wb _ (G.blkX scope s H A cl fp xe tkb)
  · obtain ⟨f0, f1, f2, f3, f4, f5⟩ := f
    exact ⟨.ref D, H', I'.turned (t' := s'.toks) (fun b o hb e => (sb.2 b hb).trans e) f0 f1 f3 f4 f5, rfl, q⟩
/-- name = [..], an error handed on -/
theorem s_setCX {i : Nat} {nm : Str} {py spos : Pos} {tg : Tg} {k : ItK} {es ifs : List PE} {elt : PE} {y tgx iter : Expr} {ifsx : List Expr} {scope : Scope} {p : Pos} (G : Good C W n g cc X) (O : Own X) (hn : chkNm cc i (.Name nm py) = true)
    (hi : PI X tgx iter (tIt (tOf X C) W g k es)) (hs : noSet iter = true) (ht : chkTg { cc with sc := scope, top := false } tg tgx = true) (ho : (ownOf tg tgx).map (·.2) = tgIs tg) (hb : blkC cc.N cc.sc scope (ownOf tg tgx) = true)
    (hif : ∀ (Wb : WX) (Y : Cx), Good C Wb n g { cc with sc := scope, top := false } Y → PTs Y ifsx (tEvI (tOf Y C) Wb g ifs))
    (he : ∀ (Wb : WX) (Y : Cx), Good C Wb n g { cc with sc := scope, top := false } Y → L2.PE Y y (tEv (tOf Y C) Wb g elt)) :
    L2.PS X (.Assign [.Name nm py] (.ListComp y [⟨tgx, iter, ifsx, 0⟩] scope p) spos) (tAsg (tEv (tOf X C) W g (.compX tg k es ifs elt)) (gName i)) := by
  obtain ⟨h1, h2⟩ := Bool.and_eq_true_iff.mp (show (decide (cc.N[i]? = some nm) && loc cc.sc nm) = true from hn)
  have h1' : X.N[i]? = some nm := by rw [G.hN]; exact of_decide_eq_true h1
  have hN : X.N.Nodup := by rw [G.hN]; exact G.nd
  cases hsw : (X.env.blockKind == .function && X.env.kindOf nm == some .local && py.line == p.line && !(scope.names.any fun (n, k) => n == nm && (k == .local || k == .cell))) with
  | false =>
    have sw : swapsWith (.ListComp y [⟨tgx, iter, ifsx, 0⟩] scope p) (some (.Name nm py)) spos.line X.env = pure false := congrArg pure hsw
    exact ps_set hN h1' (G.sc.loc h2) (s_compX G O hi hs ht ho hb hif he) sw (G.fn nm h2)
  | true =>
    have hl : X.env.scope.names.lookup nm = some .local := by
      simp only [Bool.and_eq_true] at hsw
      exact eq_of_beq hsw.1.1.2
    have sw : swapsWith (.ListComp y [⟨tgx, iter, ifsx, 0⟩] scope p) (some (.Name nm py)) spos.line X.env = pure true := congrArg pure hsw
    refine ⟨fun pins s σ H D I h => ?_⟩
    rw [exec_Assign_Name_used _ _ _ _ sw]
    refine wpAny_bind (wpAny_standAt (wpAny_bind ?_))
    show wpAny _ X.A (do let _ ← comprehension (.ListComp y [⟨tgx, iter, ifsx, 0⟩] scope p) scope X.env (firstIterPos [⟨tgx, iter, ifsx, 0⟩] p) (newList []) false (eval iter X.env) (some (assign (.Name nm py) X.env))) _ _ s
    have h' := lc_readX (vs := (ownOf tg tgx).map (·.2)) ho (show tEv (tOf X C) W g (.compX tg k es ifs elt) σ H (fun x H1 => gName i x σ H1 D.nx) from h)
    refine wpAny_bind (thn (lc_coreX (tt := fun Wb => tEvI (tOf X C) Wb g ifs) (te := fun Wb => tEv (tOf X C) Wb g elt) (Qf := fun _ s' => SP X pins D .next s') G.calm hN G.tk O I hi (lc_blk G hb) (fun s H A cl fp xe => ?_) (fun Wb s H A cl fp xe tkb => ?_) (fun Wb s H A cl fp xe tkb => ?_) (folded hs) h' fun L A s' m H' I' q hn' f => ?_) fun _ s' hq => wpAny_pure (wpAny_pure hq))
    · exact pg_tg (G.blkX scope s H A cl fp xe Tk.of0) ht
    · exact hif Wb _ (G.blkX scope s H A cl fp xe tkb)
    · exact he Wb _ (G.blkX scope s H A cl fp xe tkb)
    show wpAny _ _ (assign (.Name nm py) X.env (.ref L)) _ _ _
    obtain ⟨f0, f1, f2, f3, f4, f5⟩ := f
    refine wpAny_assign_Name (store_ok2 (v := V.ref L) I' hN h1' (.inl hl) rfl (fun s2 I2 ⟨a, sb, ha⟩ => ⟨m, hn'.sameBut sb ?_, fun h3 sb3 => ?_⟩) (.inr hl))
    · rcases ha with z | z
      · rw [z]; exact f1
      · exact fun e => f4 nm a z e.symm
    · exact ⟨_, H', I2.turned (t' := s2.toks) (fun b o hb e => (sb3.2 b hb).trans e) f0 f1 f3 f4 f5, q⟩
end
end Ev
end
section
set_option Elab.async false
set_option linter.all false
set_option maxRecDepth 100000
namespace Ev
open PySem PySem.Spec PyProof.Rows L2 PySem.SeqAt
theorem all2_get {α β : Type} {f : α → β → Bool} : ∀ (as : List α) (bs : List β), all2 f as bs = true → ∀ (i : Nat) a b, as[i]? = some a → bs[i]? = some b → f a b = true
  | [], [], _, i, a, b, h, _ => by simp at h
  | [], _ :: _, h, _, _, _, _, _ => by cases h
  | _ :: _, [], h, _, _, _, _, _ => by cases h
  | x :: as, y :: bs, h, i, a, b, h1, h2 => by
    obtain ⟨q1, q2⟩ := Bool.and_eq_true_iff.mp (show (f x y && all2 f as bs) = true from h)
    cases i with
    | zero => simp at h1 h2; subst h1; subst h2; exact q1
    | succ j => exact all2_get as bs q2 j a b (by simpa using h1) (by simpa using h2)
theorem all2_true {α β : Type} {f : α → β → Bool} : ∀ (as : List α) (bs : List β), all2 f as bs = true → all2 (fun _ _ => decide True) as bs = true
  | [], [], _ => rfl
  | [], _ :: _, h => by cases h
  | _ :: _, [], h => by cases h
  | x :: as, y :: bs, h => by
    obtain ⟨q1, q2⟩ := Bool.and_eq_true_iff.mp (show (f x y && all2 f as bs) = true from h)
    show (decide True && all2 _ as bs) = true
    rw [all2_true as bs q2]; rfl
theorem all2_len {α β : Type} {f : α → β → Bool} : ∀ (as : List α) (bs : List β), all2 f as bs = true → as.length = bs.length
  | [], [], _ => rfl
  | [], _ :: _, h => by cases h
  | _ :: _, [], h => by cases h
  | x :: as, y :: bs, h => by
    obtain ⟨q1, q2⟩ := Bool.and_eq_true_iff.mp (show (f x y && all2 f as bs) = true from h)
    rw [List.length_cons, List.length_cons, all2_len as bs q2]
structure EOk (C : Nat → Addr) (W : WX) (g : G) (X : Cx) (e : PE) (x : Expr) : Prop where
  pe : L2.PE X x (tEv (tOf X C) W g e)
  pt : PT X x (tEvT (tOf X C) W g e)
  pw : ∀ o xs q, x = .BoolOp o xs q → PW X x (tEvT (tOf X C) W g e)
section
variable {X : Cx} {C : Nat → Addr} {W : WX} {n m : Nat} {g : G} {cc : CC} {a b c e : PE} {x y z : Expr} {p : Pos} {es : List PE} {xs : List Expr}
theorem EOk.of (h : L2.PE X x (tEv (tOf X C) W g e)) (hp : plainTest x = true) : EOk C W g X e x := ⟨h, tst_plain h hp, fun o xs q e => by subst e; cases hp⟩
theorem EOk.cmp {ops ys} (h : L2.PE X (.Compare x ops ys p) (tEv (tOf X C) W g e)) (ht : PT X (.Compare x ops ys p) (tEvT (tOf X C) W g e)) : EOk C W g X e (.Compare x ops ys p) := ⟨h, ht, fun o xs q e => nomatch e⟩
theorem tst_ife (hc : PT X z (tEvT (tOf X C) W g c)) (ha : PT X x (tEvT (tOf X C) W g a)) (hb : PT X y (tEvT (tOf X C) W g b)) : PT X (.IfExp z x y p) (tEvT (tOf X C) W g (.ife c a b)) := by
  refine ⟨fun pins s σ H Q I ⟨ρ, S, μ, env, st, h⟩ => ?_⟩
  have e1 : isTrue (.IfExp z x y p) X.env (eval (.IfExp z x y p) X.env) = (do if ← isTrue z X.env (eval z X.env) then isTrue x X.env (eval x X.env) else isTrue y X.env (eval y X.env)) := by
    simp only [PySem.isTrue]
  rw [e1]
  have h := h.test
  unfold evalE at h
  have h2 : Ran (tOf X C) W σ H μ (testE (evalE g c ρ S)) fun t S1 => Ran (tOf X C) W σ H μ (testE (evalE g (if t = true then a else b) ρ S1)) (FinB (tOf X C) H μ Q) := by
    refine h.tests.imp fun t S1 _ k => ?_
    cases t with
    | true => rw [if_pos rfl] at k ⊢; exact Ran.to_test k
    | false => rw [if_neg (by decide)] at k ⊢; exact Ran.to_test k
  have h3 : tEvT (tOf X C) W g c σ H fun t H1 => tEvT (tOf X C) W g (if t = true then a else b) σ H1 Q := evT1 env st h2 fun t S1 H1 μ1 s ok k => ⟨ρ, S1, μ1, env.keep st.kinds s, ok, (k.on s).imp fun b S2 _ k2 H2 μ2 s2 ok2 => k2 H2 μ2 (s.trans s2) ok2⟩
  refine wpAny_bind (thn (hc.run pins s σ H _ I h3) fun t s1 ⟨H1, I1, q1⟩ => ?_)
  cases t with
  | true => exact ha.run pins s1 σ H1 Q I1 q1
  | false => exact hb.run pins s1 σ H1 Q I1 q1
theorem s_const {d : D} {k : Const} {j : Nat} (h : cstOk d k = true) : ∃ v, L2.PE X (.Constant k j p) (tC v) ∧ scalV d v := by
  cases d <;> cases k <;> first
    | exact ⟨_, pe_non, rfl⟩
    | (cases h; done)
    | (have h' := eq_of_beq h; subst h'; exact ⟨_, pe_bl, rfl⟩)
    | (have h' := of_decide_eq_true h; subst h'; exact ⟨_, pe_int, rfl⟩)
    | (have h' := of_decide_eq_true h; subst h'; exact ⟨_, pe_str, rfl⟩)
end
def Ih (C : Nat → Addr) (g : G) (m n : Nat) : Prop := ∀ (W : WX) (cc : CC) (X : Cx), Good C W n g cc X → ∀ (e : PE) (x : Expr), chkE m cc e x = true → EOk C W g X e x
section
variable {X : Cx} {C : Nat → Addr} {W : WX} {n m : Nat} {g : G} {cc : CC} {a b c e : PE} {x y z : Expr} {p : Pos} {es : List PE} {xs : List Expr}
theorem Ih.pas (ih : Ih C g m n) (G : Good C W n g cc X) (h : all2 (chkE m cc) es xs = true) (hs : xs.all noStar = true) : PA X xs (tEvs (tOf X C) W g es) :=
  Ev.pas es xs (all2_true es xs h) (fun i e x h1 h2 => (ih _ _ _ G e x (all2_get es xs h i e x h1 h2)).pe) hs
theorem Ih.pi (ih : Ih C g m n) (G : Good C W n g cc X) {k : ItK} {tgx iter : Expr} (h : chkI m cc k es tgx iter = true) : PI X tgx iter (tIt (tOf X C) W g k es) := by
  unfold chkI at h
  split at h
  · exact pi_val (ih _ _ _ G _ _ h).pe
  · simp only [Bool.and_eq_true, decide_eq_true_eq] at h
    obtain ⟨⟨⟨rfl, h2⟩, h3⟩, h4⟩ := h
    obtain ⟨g1, g2, g3⟩ := G.gl h2
    exact pi_rng1 g1 (G.free _ (by decide +kernel)) h4 (ih.pas G (by simp [all2, h3]) (by simp [h4]))
  · simp only [Bool.and_eq_true, decide_eq_true_eq] at h
    obtain ⟨⟨⟨⟨⟨rfl, h2⟩, h3⟩, h4⟩, h5⟩, h6⟩ := h
    obtain ⟨g1, g2, g3⟩ := G.gl h2
    exact pi_rng2 g1 (G.free _ (by decide +kernel)) h4 h6 (ih.pas G (by simp [all2, h3, h5]) (by simp [h4, h6]))
  · simp only [Bool.and_eq_true, decide_eq_true_eq] at h
    obtain ⟨⟨⟨⟨⟨⟨rfl, h2⟩, h3⟩, h4⟩, h5⟩, h6⟩, h7⟩ := h
    obtain ⟨g1, g2, g3⟩ := G.gl h2
    cases tgx with
    | Tuple elts kk tpos => exact pi_zipD g1 (G.free _ (by decide +kernel)) h4 h6 (ih.pas G (by simp [all2, h3, h5]) (by simp [h4, h6]))
    | _ => cases h7
  · cases h
theorem main_e (C : Nat → Addr) (g : G) (n : Nat) : ∀ m, Ih C g m n
  | 0 => fun _ _ _ _ _ _ h => by cases h
  | m + 1 => fun W cc X G e x h => by
    have ih : Ih C g m n := main_e C g n m
    unfold chkE at h
    split at h
    all_goals try (have q := Nat.succ.inj ‹m + 1 = _ + 1›; subst q)
    · cases h
    · -- var
      simp only [Bool.and_eq_true, decide_eq_true_eq] at h
      obtain ⟨⟨⟨h1, h2⟩, h3⟩, h4⟩ := h
      exact .of (s_var (by rw [G.hN]; exact h1) (G.sc.vis h2) (beq_eq_false_iff_ne.mpr h3) (beq_eq_false_iff_ne.mpr h4)) rfl
    · obtain ⟨v, h1, h2⟩ := s_const (X := X) h
      exact .of (s_val h1 h2) rfl
    · simp only [Bool.and_eq_true] at h
      obtain ⟨h1, h2⟩ := h
      obtain ⟨g1, g2, g3⟩ := G.gl h1
      split at h2
      · rename_i d' hd
        have := scEq_ok h2
        subst this
        obtain ⟨u, v, e1, e2, e3⟩ := G.con _ _ hd
        exact .of (s_val (pe_glob g1 e1 e2 g2) e3) rfl
      · cases h2
    · simp only [Bool.and_eq_true, decide_eq_true_eq] at h
      obtain ⟨⟨h1, h2⟩, h3⟩ := h
      exact .of (s_tup (ih.pas G h1 h2) h3 (all2_len _ _ h1).symm) rfl
    · simp only [Bool.and_eq_true, decide_eq_true_eq] at h
      obtain ⟨⟨h1, h2⟩, h3⟩ := h
      exact .of (s_lst (ih.pas G h1 h2) h3 (all2_len _ _ h1).symm) rfl
    · exact .of s_dct0 rfl
    · simp only [Bool.and_eq_true, decide_eq_true_eq] at h
      obtain ⟨⟨rfl, h1⟩, h2⟩ := h
      exact .of (s_bin (ih _ _ _ G _ _ h1).pe (ih _ _ _ G _ _ h2).pe) rfl
    · exact .of (s_neg (ih _ _ _ G _ _ h).pe) rfl
    · exact ⟨s_not (ih _ _ _ G _ _ h).pe, tst_not (ih _ _ _ G _ _ h).pt, fun _ _ _ e => nomatch e⟩
    · -- and
      simp only [Bool.and_eq_true] at h
      obtain ⟨h1, h2⟩ := h
      have hx := ih _ _ _ G _ _ h1
      split at h2
      · have hy := ih _ _ _ G _ _ h2
        have w := tst_and (p := ‹Pos›) hx.pt (pw_and1 hy.pt)
        exact ⟨s_and hx.pe (pe_one hy.pe), w.pt, fun _ _ _ _ => w⟩
      · have hy := ih _ _ _ G _ _ h2
        have w := tst_and hx.pt (hy.pw _ _ _ rfl)
        exact ⟨s_and hx.pe hy.pe, w.pt, fun _ _ _ _ => w⟩
    · simp only [Bool.and_eq_true] at h
      obtain ⟨h1, h2⟩ := h
      have hx := ih _ _ _ G _ _ h1
      split at h2
      · have hy := ih _ _ _ G _ _ h2
        have w := tst_or (p := ‹Pos›) hx.pt (pw_or1 hy.pt)
        exact ⟨s_or hx.pe (pe_one hy.pe), w.pt, fun _ _ _ _ => w⟩
      · have hy := ih _ _ _ G _ _ h2
        have w := tst_or hx.pt (hy.pw _ _ _ rfl)
        exact ⟨s_or hx.pe hy.pe, w.pt, fun _ _ _ _ => w⟩
    · simp only [Bool.and_eq_true, decide_eq_true_eq] at h
      obtain ⟨⟨⟨rfl, h1⟩, h2⟩, h3⟩ := h
      exact .cmp (s_cmp G.units (ih _ _ _ G _ _ h1).pe (ih _ _ _ G _ _ h2).pe h3) (tst_cmp G.units (ih _ _ _ G _ _ h1).pe (ih _ _ _ G _ _ h2).pe h3)
    · simp only [Bool.and_eq_true, decide_eq_true_eq] at h
      obtain ⟨⟨⟨⟨⟨rfl, rfl⟩, h1⟩, h2⟩, h3⟩, h4⟩ := h
      exact .cmp (s_cmp2 G.units (ih _ _ _ G _ _ h1).pe (ih _ _ _ G _ _ h2).pe (ih _ _ _ G _ _ h3).pe h4) (tst_cmp2 G.units (ih _ _ _ G _ _ h1).pe (ih _ _ _ G _ _ h2).pe (ih _ _ _ G _ _ h3).pe h4)
    · simp only [Bool.and_eq_true, decide_eq_true_eq] at h
      obtain ⟨⟨rfl, h1⟩, h2⟩ := h
      obtain ⟨v, c1, c2⟩ := s_const (X := X) h2
      exact .cmp (s_is (ih _ _ _ G _ _ h1).pe c1 c2 rfl) (tst_is (ih _ _ _ G _ _ h1).pe c1 c2 rfl)
    · simp only [Bool.and_eq_true] at h
      obtain ⟨⟨h1, h2⟩, h3⟩ := h
      exact ⟨s_ife (ih _ _ _ G _ _ h1).pt (ih _ _ _ G _ _ h2).pe (ih _ _ _ G _ _ h3).pe, tst_ife (ih _ _ _ G _ _ h1).pt (ih _ _ _ G _ _ h2).pt (ih _ _ _ G _ _ h3).pt, fun _ _ _ e => nomatch e⟩
    · simp only [Bool.and_eq_true] at h
      obtain ⟨⟨h1, h2⟩, h3⟩ := h
      exact .of (s_idx G.units (ih _ _ _ G _ _ h1).pe (ih _ _ _ G _ _ h2).pe h3) rfl
    · -- slice
      simp only [Bool.and_eq_true] at h
      obtain ⟨⟨h1, h2⟩, h3⟩ := h
      refine .of (s_sl (ih _ _ _ G _ _ h1).pe ?_ ?_) rfl
      · split at h2
        · exact po_so (ih _ _ _ G _ _ h2).pe
        · split at h2
          · exact po_no
          · cases h2
      · split at h3
        · exact po_so (ih _ _ _ G _ _ h3).pe
        · split at h3
          · exact po_no
          · cases h3
    · simp only [Bool.and_eq_true, decide_eq_true_eq] at h
      obtain ⟨⟨⟨h1, h2⟩, h3⟩, h4⟩ := h
      exact .of (s_call G h1 h2 (ih.pas G h3 h4) h4) rfl
    · simp only [Bool.and_eq_true, decide_eq_true_eq] at h
      obtain ⟨⟨⟨h1, rfl⟩, h3⟩, h4⟩ := h
      exact .of (s_blt G h1 (ih.pas G h3 h4) h4) rfl
    · simp only [Bool.and_eq_true, decide_eq_true_eq] at h
      obtain ⟨⟨⟨⟨⟨⟨rfl, h1⟩, h2⟩, h3⟩, h4⟩, h5⟩, h6⟩ := h
      exact .of (s_mth G (ih _ _ _ G _ _ h1).pe (ih.pas G h2 h3) h3 (all2_len _ _ h2) h4 h5 h6) rfl
    · -- isinstance
      simp only [Bool.and_eq_true, decide_eq_true_eq] at h
      obtain ⟨⟨⟨⟨⟨h1, rfl⟩, h2⟩, h3⟩, h4⟩, h5⟩ := h
      unfold chkTs at h5
      split at h5
      · simp only [Bool.and_eq_true, decide_eq_true_eq] at h5
        obtain ⟨⟨k1, k2⟩, k3⟩ := h5
        exact .of (s_isi G h1 (by intro e; subst e; cases k1) (ih _ _ _ G _ _ h2).pe h3 h4 (.inr ⟨_, _, _, rfl, k2, k3⟩)) rfl
      · exact .of (s_isi G h1 (by simp) (ih _ _ _ G _ _ h2).pe h3 h4 (.inl ⟨_, rfl, h5⟩)) rfl
      · cases h5
    · -- comprehension
      simp only [Bool.and_eq_true, decide_eq_true_eq] at h
      obtain ⟨⟨⟨⟨⟨⟨h1, h2⟩, h3⟩, h4⟩, h5⟩, h6⟩, h7⟩ := h
      refine .of (s_comp G (ih.pi G (by unfold chkI; exact h1)) h2 h3 h4 h5 (fun s H A cl fp => ?_) fun s H A cl fp => (ih _ _ _ (G.blk _ s H A cl fp) _ _ h7).pe) rfl
      split at h6
      · exact ifs_nil
      · exact ifs_one (ih _ _ _ (G.blk _ s H A cl fp) _ _ h6).pt
      · cases h6
    · simp only [Bool.and_eq_true, decide_eq_true_eq] at h
      obtain ⟨⟨⟨⟨⟨⟨⟨h0, h1⟩, h2⟩, h3⟩, h4⟩, h5⟩, h6⟩, h7⟩ := h
      refine .of (s_compX G (G.own h0) (ih.pi G (by unfold chkI; exact h1)) h2 h3 h4 h5 (fun Wb Y GY => ?_) fun Wb Y GY => (ih _ _ _ GY _ _ h7).pe) rfl
      split at h6
      · exact ifs_nil
      · exact ifs_one (ih _ _ _ GY _ _ h6).pt
      · cases h6
    · cases h
end
end Ev
end
section
set_option Elab.async false
set_option linter.all false
set_option maxRecDepth 100000
namespace Ev
open PySem PySem.Spec PyProof.Rows L2 PySem.SeqAt
section
variable {T : Pgm} {H : Hp} {μ : List Addr} {S : Sto}
theorem Reps.set : ∀ (ds : List D) (vs : List V) (k : Nat) (d : D) (v : V), Reps T H μ ds vs [] → Rep T H μ d v [] → Reps T H μ (ds.set k d) (vs.set k v) []
  | [], _, _, _, _, h, _ => by obtain ⟨rfl, _⟩ := h; exact ⟨rfl, rfl⟩
  | x :: ds, _, k, d, v, h, r => by
    obtain ⟨w, us, f1, f2, rfl, h1, h2, e⟩ := h
    obtain ⟨rfl, rfl⟩ := List.append_eq_nil_iff.mp e.symm
    cases k with
    | zero => exact ⟨v, us, [], [], rfl, r, h2, rfl⟩
    | succ k => exact ⟨w, us.set k v, [], [], rfl, h1, Reps.set ds us k d v h2 r, rfl⟩
theorem map_put {k : Key} {y : V} : ∀ (kvs : List (Key × V)), (kvs.map (·.1)).Nodup → ∀ j, (kvs.findIdx? fun p => decide (p.1 = k)) = some j →
    (kvs.map fun kv => if kv.1 = k then (kv.1, y) else kv).map (·.2) = (kvs.map (·.2)).set j y ∧ (kvs.map fun kv => if kv.1 = k then (kv.1, y) else kv).map (·.1) = kvs.map (·.1)
  | [], _, j, h => by simp at h
  | p :: r, nd, j, h => by
    rw [List.map_cons, List.nodup_cons] at nd
    rw [List.findIdx?_cons] at h
    by_cases e : p.1 = k
    · simp only [e, decide_true, if_true] at h
      cases h
      have id : (r.map fun kv => if kv.1 = k then (kv.1, y) else kv) = r := by
        conv => rhs; rw [← List.map_id r]
        refine List.map_congr_left fun kv m => ?_
        rw [if_neg fun q => nd.1 (by rw [e, ← q]; exact List.mem_map_of_mem m)]; rfl
      rw [List.map_cons, if_pos e, id]
      exact ⟨by simp, by simp⟩
    · have h' : (r.findIdx? fun p => decide (p.1 = k)).map (· + 1) = some j := by simpa [e] using h
      obtain ⟨j', h1, rfl⟩ := Option.map_eq_some_iff.mp h'
      obtain ⟨a, b⟩ := map_put r nd.2 j' h1
      rw [List.map_cons, if_neg e]
      exact ⟨by rw [List.map_cons, a]; rfl, by rw [List.map_cons, b]; rfl⟩
theorem put_key {a : Addr} {ks vs : List D} {kvs : List (Key × V)} {k : Key} {z : D} {y : V} (nd : (kvs.map (·.1)).Nodup) (ek : ks = kvs.map fun p => keyD p.1) (r : Reps T H μ vs (kvs.map (·.2)) []) (rz : Rep T H μ z y []) :
    (putK ks vs (keyD k) z).1 = (L2.putK kvs k y).map (fun p => keyD p.1) ∧ Reps T H μ (putK ks vs (keyD k) z).2 ((L2.putK kvs k y).map (·.2)) [] ∧ ((L2.putK kvs k y).map (·.1)).Nodup := by
  subst ek
  unfold putK
  rw [find_key]
  cases hf : kvs.findIdx? fun p => decide (p.1 = k) with
  | none =>
    have hv : valV kvs k = none := by
      have := findIdx_val k kvs
      rw [hf] at this
      cases h : valV kvs k with
      | none => rfl
      | some _ => rw [h] at this; cases this
    rw [putK_new y hv]
    have nk : k ∉ kvs.map (·.1) := fun m => by
      obtain ⟨p, pm, pe⟩ := List.mem_map.mp m
      have := List.findIdx?_eq_none_iff.mp hf p pm
      simp [pe] at this
    refine ⟨by simp, ?_, ?_⟩
    · rw [List.map_append]
      have := Reps.append _ _ _ _ _ _ r (show Reps T H μ [z] [y] [] from ⟨y, [], [], [], rfl, rz, ⟨rfl, rfl⟩, rfl⟩)
      simpa using this
    · rw [List.map_append]
      refine List.nodup_append.mpr ⟨nd, by simp, fun a ha b hb e => ?_⟩
      have : b = k := by simpa using hb
      subst this; subst e; exact nk ha
  | some j =>
    obtain ⟨m1, m2⟩ := map_put (y := y) kvs nd j hf
    have ha : (kvs.any fun kv => decide (kv.1 = k)) = true := by
      rw [valV_any, ← findIdx_val, hf]; rfl
    have e : L2.putK kvs k y = kvs.map fun kv => if kv.1 = k then (kv.1, y) else kv := by
      unfold L2.putK
      rw [if_pos ha]
    rw [e]
    refine ⟨?_, ?_, ?_⟩
    · show kvs.map (fun p => keyD p.1) = _
      have : ∀ l : List (Key × V), l.map (fun p => keyD p.1) = (l.map (·.1)).map keyD := fun l => by rw [List.map_map]; rfl
      rw [this, this, m2]
    · rw [m1]; exact Reps.set _ _ _ _ _ r rz
    · rw [m2]; exact nd
end
def rSetE (T : Pgm) : TSet := fun o i v H Q => ∃ dv d di S μ f1 f2 f3 S', Rep T H μ dv v f1 ∧ Rep T H μ d o f2 ∧ Rep T H μ di i f3 ∧ StOk T H μ S ∧ (μ ++ f1).Nodup ∧ setItE d di dv S = some S' ∧ ∀ H' μ', StpO f1 H μ H' μ' → StOk T H' μ' S' → Q H'
theorem fin_nd {X : Cx} {C : Nat → Addr} {H : Hp} {μ f1 : List Addr} {S2 : Sto} {n : Nat} {a : Addr} {ks vs : List D} {xs : List XP} {Q : Hp → Prop} (g2 : StOk (tOf X C) H (μ ++ f1) S2) (hm' : (μ ++ f1)[n]? = some a) (ma : a ∈ μ)
    (q : ∀ H' μ', StpO f1 H μ H' μ' → StOk (tOf X C) H' μ' (S2.set n (.nd ks vs)) → Q H')
    (p : xs.map (·.1) = ks.map D.nk ∧ (∀ k ∈ ks, tkeyOk k = true) ∧ Reps (tOf X C) H (μ ++ f1) ks (xs.map fun x => .ref x.2.1) [] ∧ Reps (tOf X C) H (μ ++ f1) vs (xs.map (·.2.2)) []) : Q (upd H a (ndHO X.w a xs)) := by
  have st : Stp H (μ ++ f1) (upd H a (ndHO X.w a xs)) (μ ++ f1) := Stp.put (List.mem_append_left _ ma)
  refine q _ _ (StpO.put ma fun b hb => hb) (g2.put hm' st (fun b hb => ?_) ⟨xs, ⟨upd_same, p.1, p.2.1⟩, Reps.keep g2.kinds st _ _ _ p.2.2.1 (by simp), Reps.keep g2.kinds st _ _ _ p.2.2.2 (by simp)⟩)
  have : b = a := by simpa using hb
  subst this; exact .inr (.inr ⟨(_, _), upd_same⟩)
theorem set_d {X : Cx} {C : Nat → Addr} (hu : X.A.units + 20 < cLine) : PSet X (rSetE (tOf X C)) := by
  intro pins s σ H o i v ov iv u Q I ro ri rv ⟨dv, d, di, S, μ, f1, f2, f3, S', r1, r2, r3, ok, nd, e, q⟩
  unfold setItE at e
  split at e
  · rename_i n
    obtain ⟨a, rfl, hm, rfl⟩ := r2
    have ma : a ∈ μ := List.mem_of_getElem? hm
    obtain ⟨g1, g2⟩ := settle_ok dv v f1 μ S r1 ok nd
    have kf := Rep.kinds dv v f1 r1
    have hm' : (μ ++ f1)[n]? = some a := widen_g n a hm
    split at e
    · rename_i ds hS
      obtain ⟨vs, ha, rs⟩ := ok.at_ n _ a hS hm
      split at e
      · rename_i k
        obtain ⟨rfl, rfl⟩ := r3
        by_cases hk : 0 ≤ k ∧ k < ds.length
        case neg => simp only [if_neg hk] at e; cases e
        simp only [if_pos hk] at e
        cases e
        have hix : ixN vs.length k = some k.toNat := by
          unfold ixN
          rw [Reps.len _ _ _ rs, if_pos hk.1, if_pos hk.2]
        refine set_list pins s σ H _ _ v ov iv u Q I ro ri rv ⟨a, vs, k, k.toNat, rfl, rfl, ha, hix, ?_⟩
        exact q _ _ (StpO.put ma fun b hb => hb) (put_list g2 hm' (Reps.set _ _ _ _ _ (Reps.widen kf _ _ _ rs) g1))
      · cases e
    · rename_i ks vs hS
      obtain ⟨us, ⟨kvs, ha, ek, eu, ndk⟩, rs⟩ := ok.at_ n _ a hS hm
      split at e
      · rename_i hk
        obtain ⟨hk1, hk2⟩ := Bool.and_eq_true_iff.mp hk
        obtain ⟨key, rfl, rfl⟩ := keyV r3 hk1
        cases e
        have hlen : kvs.length < sizeLine := by
          have : ks.length < 16777216 := of_decide_eq_true hk2
          rw [ek, List.length_map] at this
          exact this
        refine set_dict (by omega) pins s σ H _ _ v ov iv u Q I ro ri rv ⟨a, _, rfl, DPut.k ha hlen, ?_⟩
        subst eu
        obtain ⟨p1, p2, p3⟩ := put_key (k := key) (a := a) ndk ek (Reps.widen kf _ _ _ rs) g1
        have st : Stp H (μ ++ f1) (upd H a (.dK (L2.putK kvs key v))) (μ ++ f1) := Stp.put (List.mem_append_left _ ma)
        refine q _ _ (StpO.put ma fun b hb => hb) (g2.put hm' st (fun b hb => ?_) ⟨_, ⟨_, upd_same, p1, rfl, p3⟩, Reps.keep g2.kinds st _ _ _ p2 (by simp)⟩)
        have : b = a := by simpa using hb
        subst this; exact .inr (.inl ⟨_, upd_same⟩)
      · split at e
        · rename_i hk
          obtain ⟨hk0, hvs⟩ := Bool.and_eq_true_iff.mp hk
          obtain ⟨hk1, hks⟩ := Bool.and_eq_true_iff.mp hk0
          clear hk hk0
          obtain rfl : ks = [] := by simpa using hks
          obtain rfl : vs = [] := by simpa using hvs
          cases e
          obtain rfl : kvs = [] := by simpa using ek.symm
          obtain ⟨b, rfl, rfl, rfl, kb⟩ := tkey_at I r3 ri hk1
          cases (show ov = Value.ref a from ro)
          have n0 := (d0_in I (a := a) (us := []) ⟨[], ha, rfl, rfl, by simp⟩).1
          refine nd_set hu I n0 (by simp) (by rw [ha]; exact True.intro) hk1 kb rv fun ndx s' I' => ⟨_, I', ?_⟩
          have w0 : Reps (tOf X C) H (μ ++ f1) [] (([] : List XP).map fun x => V.ref x.2.1) [] := ⟨rfl, rfl⟩
          have w1 : Reps (tOf X C) H (μ ++ f1) [] (([] : List XP).map (·.2.2)) [] := ⟨rfl, rfl⟩
          exact fin_nd g2 hm' ma q (put_nd (ks := []) (vs := []) (xs := []) hk1 rfl (by simp) ndx w0 w1 (Rep.widen kf _ _ _ r3) g1)
        · cases e
    · rename_i ks vs hS
      obtain ⟨xs, hn, rk, rs⟩ := ok.at_ n _ a hS hm
      split at e
      · rename_i hk
        obtain ⟨hk1, hk2⟩ := Bool.and_eq_true_iff.mp hk
        cases e
        obtain ⟨b, rfl, rfl, rfl, kb⟩ := tkey_at I r3 ri hk1
        cases (show ov = Value.ref a from ro)
        refine nd_set hu I (hn.in_ I rk) (of_decide_eq_true hk2) (by rw [hn.1]; exact True.intro) hk1 kb rv fun ndx s' I' => ⟨_, I', ?_⟩
        exact fin_nd g2 hm' ma q (put_nd hk1 hn.2.1 hn.2.2 ndx (Reps.widen kf _ _ _ rk) (Reps.widen kf _ _ _ rs) (Rep.widen kf _ _ _ r3) g1)
      · cases e
    · cases e
  · cases e
end Ev
end
section
set_option Elab.async false
set_option linter.all false
set_option maxRecDepth 100000
namespace Ev
open PySem PySem.Spec PyProof.Rows L2 PySem.SeqAt
/-! ### statements: the reading -/
def FFin (T : Pgm) (W : WX) (H : Hp) (μ : List Addr) (D : Ends) : Option (Fl × Sto) → Prop
  | some (.nx ρ', S') => ∀ σ' H' μ', Stp H μ H' μ' → StOk T H' μ' S' → EnvOk T H' μ' σ' ρ' → D.nx σ' H'
  | some (.ret d, S') => ∀ v H' μ' fp, Pst T H μ d S' v H' μ' fp → D.rt v H'
  | some (.ex c, S') => ∀ σ' H' μ', Stp H μ H' μ' → StOk T H' μ' S' → W (.ref (T.C c)) none σ' H'
  | none => False
def tEvS (T : Pgm) (W : WX) (g : G) (s : PS) : TS := fun D σ H => ∃ ρ S μ, EnvOk T H μ σ ρ ∧ StOk T H μ S ∧ FFin T W H μ D (execS g s ρ S)
def tEvB (T : Pgm) (W : WX) (g : G) (s : List PS) : TS := fun D σ H => ∃ ρ S μ, EnvOk T H μ σ ρ ∧ StOk T H μ S ∧ FFin T W H μ D (execB g s ρ S)
section
variable {α : Type} {T : Pgm} {W : WX} {σ : Slots} {H H1 : Hp} {μ μ1 : List Addr} {D : Ends}
theorem FFin.bnd {m : Option (R α)} {f : α → Sto → Option (Fl × Sto)} (h : FFin T W H μ D (bndS m f)) : Ran T W σ H μ m fun a S => FFin T W H μ D (f a S) := by
  match m, h with
  | some (.ok a S), h => exact h
  | some (.ex c S), h => exact fun H' μ' s ok => h σ H' μ' s ok
theorem FFin.on {m : Option (Fl × Sto)} (s : Stp H μ H1 μ1) (h : FFin T W H μ D m) : FFin T W H1 μ1 D m := by
  match m, h with
  | some (.nx ρ', S'), h => exact fun σ' H' μ' s' => h σ' H' μ' (s.trans s')
  | some (.ret d, S'), h => exact fun v H' μ' fp p => h v H' μ' fp ⟨s.trans p.stp, p.ok, p.rep, p.nd, fun a m => s.free (p.new a m)⟩
  | some (.ex c, S'), h => exact fun σ' H' μ' s' => h σ' H' μ' (s.trans s')
theorem FFin.tests {m : Option (R Ev.D)} {f : Bool → Sto → Option (Fl × Sto)} (h : FFin T W H μ D (tests m f fun c S => some (.ex c, S))) : Ran T W σ H μ (testE m) fun b S => FFin T W H μ D (f b S) := by
  match m, h with
  | some (.ok d S), h =>
    have h' : FFin T W H μ D (match truth S d with | some b => f b S | none => none) := h
    show Ran T W σ H μ (match truth S d with | some b => some (.ok b S) | none => none) _
    cases e : truth S d with
    | none => rw [e] at h'; exact h'.elim
    | some b => rw [e] at h'; exact h'
  | some (.ex c S), h => exact fun H' μ' s ok => h σ H' μ' s ok
theorem FFin.guard {lk : Option (Nat × List Ev.D)} {S : Sto} {x : Option (Fl × Sto)} (h : FFin T W H μ D (guardS lk S x)) : stays lk S ∧ FFin T W H μ D x := by
  unfold guardS at h
  split at h
  · exact ⟨by assumption, h⟩
  · exact h.elim
/-- a value goes into a target -/
theorem FFin.tg {tg : Tg} {d : Ev.D} {v : V} {fp : List Addr} {S1 : Sto} {ρ : Env} (env : EnvOk T H μ σ ρ) (st : Kinds H μ) (p : Pst T H μ d S1 v H1 μ1 fp)
    (h : FFin T W H μ D (match setTg tg d ρ S1 with | some (ρ', S) => some (.nx ρ', S) | none => none)) : gTg T tg v σ H1 D.nx := by
  cases e : setTg tg d ρ S1 with
  | none => rw [e] at h; exact h.elim
  | some q =>
    obtain ⟨ρ', S'⟩ := q
    rw [e] at h
    exact setTg_ok (env.keep st p.stp) p.ok p.rep p.nd e fun σ' env' ok' _ => h σ' H1 (μ1 ++ fp) (Stp.own (own := []) p.stp p.new) ok' env'
end
def noComp : Expr → Bool
  | .ListComp _ _ _ _ => false
  | .SetComp _ _ _ _ => false
  | .DictComp _ _ _ _ _ => false
  | _ => true
theorem sw_no {e : Expr} {t : Option Expr} {l : Nat} {env : PySem.Env} (h : noComp e = true) : swapsWith e t l env = pure false := by
  cases e <;> first | rfl | cases h
def isTup : Expr → Bool
  | .Tuple _ _ _ => true
  | _ => false
section
variable {X : Cx} {C : Nat → Addr} {W : WX} {n m : Nat} {g : G} {cc : CC} {a b c e : PE} {x y z : Expr} {p p' : Pos} {es : List PE} {xs : List Expr}
theorem PS.mono {st : Stmt} {t t' : TS} (h : L2.PS X st t) (m : ∀ D σ H, t' D σ H → t D σ H) : L2.PS X st t' := ⟨fun pins s σ H D I q => h.run pins s σ H D I (m D σ H q)⟩
theorem PSs.mono {st : List Stmt} {t t' : TS} (h : L2.PSs X st t) (m : ∀ D σ H, t' D σ H → t D σ H) : L2.PSs X st t' := ⟨fun pins s σ H D I q => h.run pins s σ H D I (m D σ H q)⟩
theorem set_read {i : Nat} {D : Ends} {σ : Slots} {H : Hp} (h : tEvS (tOf X C) W g (.set i e) D σ H) : tAsg (tEv (tOf X C) W g e) (gName i) D σ H := by
  obtain ⟨ρ, S, μ, env, st, h⟩ := h
  unfold execS at h
  exact ev1 env st h.bnd fun d S1 v H1 μ1 fp p k => FFin.tg (tg := .nm i) env st.kinds p k
theorem t_set {i : Nat} {nm : Str} {py : Pos} (G : Good C W n g cc X) (hn : chkNm cc i (.Name nm py) = true) (he : L2.PE X x (tEv (tOf X C) W g e)) (hx : noComp x = true) : L2.PS X (.Assign [.Name nm py] x p) (tEvS (tOf X C) W g (.set i e)) := by
  obtain ⟨h1, h2⟩ := Bool.and_eq_true_iff.mp (show (decide (cc.N[i]? = some nm) && loc cc.sc nm) = true from hn)
  exact PS.mono (ps_set (by rw [G.hN]; exact G.nd) (by rw [G.hN]; exact of_decide_eq_true h1) (G.sc.loc h2) he (sw_no hx) (G.fn nm h2)) fun D σ H h => set_read h
theorem t_setT {is : List Nat} {ts : List Expr} {kk : Nat} {pt : Pos} (G : Good C W n g cc X) (ht : chkTg cc (.tp is) (.Tuple ts kk pt) = true) (he : L2.PE X x (tEv (tOf X C) W g e)) (hx : swappedStores [.Tuple ts kk pt] x X.env = pure none) :
    L2.PS X (.Assign [.Tuple ts kk pt] x p) (tEvS (tOf X C) W g (.setT is e)) := by
  have sw : swapsWithSole [.Tuple ts kk pt] x p.line X.env = pure false := by cases x <;> rfl
  refine PS.mono (ps_asg he (pg_tg G ht) sw hx rfl) fun D σ H ⟨ρ, S, μ, env, st, h⟩ => ?_
  unfold execS at h
  exact ev1 env st h.bnd fun d S1 v H1 μ1 fp p k => FFin.tg env st.kinds p k
theorem no_tup {ts : List Expr} {kk : Nat} {pt : Pos} {env : PySem.Env} (h : isTup x = false) : swappedStores [.Tuple ts kk pt] x env = pure none := by
  cases x <;> first | rfl | cases h
theorem par_eq {is : List Nat} {ρ : Env} {S : Sto} : execS g (.par is es) ρ S = execS g (.setT is (.tup es)) ρ S := by
  unfold execS evalE
  cases evalEs g es ρ S with
  | none => rfl
  | some r => cases r <;> rfl
theorem t_parB {is : List Nat} {ts vs : List Expr} {kk k2 : Nat} {pt p2 : Pos} (G : Good C W n g cc X) (ht : chkTg cc (.tp is) (.Tuple ts kk pt) = true) (he : L2.PE X (.Tuple vs k2 p2) (tEv (tOf X C) W g (.tup es))) (hf : vs.all (foldedForSure 8) = true) :
    L2.PS X (.Assign [.Tuple ts kk pt] (.Tuple vs k2 p2) p) (tEvS (tOf X C) W g (.par is es)) := by
  have hx : swappedStores [.Tuple ts kk pt] (.Tuple vs k2 p2) X.env = pure none := by
    unfold swappedStores
    simp only [hf, if_true]
    split
    · rfl
    split
    · rfl
    split
    · rfl
    · rfl
  refine PS.mono (t_setT G ht he hx) fun D σ H ⟨ρ, S, μ, env, st, h⟩ => ⟨ρ, S, μ, env, st, ?_⟩
  rw [← par_eq]; exact h
def isLoc (cc : CC) (x : Str) : Bool := decide (cc.sc.names.lookup x = some .local)
theorem isLoc_ok (G : Good C W n g cc X) {nm : Str} (h : isLoc cc nm = true) : X.env.scope.names.lookup nm = some .local := by
  obtain ⟨k, h1, h2⟩ := G.sc.look nm _ (of_decide_eq_true h)
  rcases h2 with rfl | ⟨z, _⟩
  · exact h1
  · cases z
theorem t_parA {i j : Nat} {x1 x2 : Str} {v1 v2 : Expr} {kk k2 : Nat} {pt p2 px py : Pos} (G : Good C W n g cc X) (h1 : cc.N[i]? = some x1) (h2 : cc.N[j]? = some x2) (hij : i ≠ j) (l1 : isLoc cc x1 = true) (l2 : isLoc cc x2 = true) (hne : x1 ≠ x2)
    (ha : PA X [v1, v2] (tEvs (tOf X C) W g es)) (hns : [v1, v2].all noStar = true) (hln : (py.line == px.line) = true) (hf : [v1, v2].all (foldedForSure 8) = false) (hcst : [v1, v2].all (constantsAlone 8) = false) :
    L2.PS X (.Assign [.Tuple [.Name x1 px, .Name x2 py] kk pt] (.Tuple [v1, v2] k2 p2) p) (tEvS (tOf X C) W g (.par [i, j] es)) := by
  have k1 := isLoc_ok G l1
  have k2' := isLoc_ok G l2
  refine ⟨fun pins s σ H D I h => ?_⟩
  have hw : swappedStores [.Tuple [.Name x1 px, .Name x2 py] kk pt] (.Tuple [v1, v2] k2 p2) X.env = pure (some [x1, x2]) := by
    have hb : X.env.blockKind = .function := by unfold Env.blockKind; rw [I.ok.kind]; rfl
    have e1 : (X.env.kindOf x1 == some .local) = true := by
      show (X.env.scope.names.lookup x1 == some .local) = true
      rw [k1]; rfl
    have e2 : (X.env.kindOf x2 == some .local) = true := by
      show (X.env.scope.names.lookup x2 == some .local) = true
      rw [k2']; rfl
    have hst : ([v1, v2].any fun | .Starred .. => true | _ => false) = false := by
      rw [List.all_cons, List.all_cons, Bool.and_eq_true, Bool.and_eq_true] at hns
      have q : ∀ v : Expr, noStar v = true → (match v with | .Starred .. => true | _ => false) = false := fun v h => by
        cases v <;> first | rfl | cases h
      simp only [List.any_cons, List.any_nil, Bool.or_false, Bool.or_eq_false_iff]
      exact ⟨q v1 hns.1, q v2 hns.2.1⟩
    have ed : ([x1, x2] : List Str).eraseDups = [x1, x2] := by
      rw [List.eraseDups_cons, List.filter_cons_of_pos (by simpa using fun e => hne e.symm), List.filter_nil, List.eraseDups_cons, List.filter_nil, List.eraseDups_nil]
    have hp1 : (px.line == px.line) = true := by simp
    unfold swappedStores
    simp only [hf, hcst, hst, hb, List.head?_cons, Option.map_some, Option.getD_some, Expr.pos, List.filterMap_cons, List.filterMap_nil, e1, e2, hln, hp1, Bool.and_self, if_true, ed, List.length_cons, List.length_nil]
    refine (if_neg (by decide)).trans ((if_neg fun hh => ?_).trans ((if_neg (by decide)).trans rfl))
    exact Bool.false_ne_true (hst.symm.trans hh)
  have sw : swapsWithSole [.Tuple [.Name x1 px, .Name x2 py] kk pt] (.Tuple [v1, v2] k2 p2) p.line X.env = pure false := rfl
  refine (ps_par (pos := p) G.calm (by rw [G.hN]; exact G.nd) (by rw [G.hN]; exact h1) (by rw [G.hN]; exact h2) hij k1 k2' ha hw sw).run pins s σ H D I ?_
  obtain ⟨ρ, S, μ, env, st, h⟩ := h
  unfold execS at h
  refine evse env st h.bnd fun ds S1 vs H1 μ1 fp e1 p1 k => ?_
  cases e : setTg (.tp [i, j]) (.tup ds) ρ S1 with
  | none => rw [e] at k; exact k.elim
  | some q =>
    obtain ⟨ρ', S'⟩ := q
    rw [e] at k
    obtain ⟨ρ2, e2, e3⟩ := Option.map_eq_some_iff.mp (show (setNames [i, j] (settles ds S1).1 ρ).map (fun ρ' => (ρ', (settles ds S1).2)) = some (ρ', S') from e)
    cases e3
    obtain ⟨r1, ok1⟩ := settles_ok ds vs fp μ1 S1 p1.rep p1.ok p1.nd
    have env1 : EnvOk (tOf X C) H1 (μ1 ++ fp) σ ρ := env.keep st.kinds (Stp.own (own := []) p1.stp p1.new)
    obtain ⟨b1, b2⟩ := EnvOk.names [i, j] _ vs σ ρ _ env1 r1 e2
    match vs, b1, b2 with
    | [v, w], _, b2 => exact ⟨v, w, rfl, k _ H1 _ (Stp.own (own := []) p1.stp p1.new) ok1 b2⟩
theorem t_setI {o i v : PE} {ox ix vx : Expr} {sp : Pos} (G : Good C W n g cc X) (ho : L2.PE X ox (tEv (tOf X C) W g o)) (hi : L2.PE X ix (tEv (tOf X C) W g i)) (hv : L2.PE X vx (tEv (tOf X C) W g v)) (hix : noSlice ix = true) :
    L2.PS X (.Assign [.Subscript ox ix sp] vx p) (tEvS (tOf X C) W g (.setI o i v)) := by
  have sw : swapsWithSole [.Subscript ox ix sp] vx p.line X.env = pure false := by cases vx <;> rfl
  have ha : ∀ v, assign (.Subscript ox ix sp) X.env v = (do
      let ov ← holding [v] (eval ox X.env)
      let iv ← holding [v, ov] (eval ix X.env)
      standAt sp
      holding [v, ov, iv] (setItem ov iv v)
      release [v, ov, iv] []) := fun v => by
    cases ix <;> first | rfl | cases hix
  have hu : X.A.units + 20 < cLine := by have := G.units; omega
  refine PS.mono (ps_asg hv (pg_sub ho hi (set_d (C := C) hu) ha) sw rfl rfl) fun D σ H ⟨ρ, S, μ, env, st, h⟩ => ?_
  unfold execS at h
  refine ev1 env st h.bnd fun dv S1 w H1 μ1 f1 p1 k => ?_
  have env1 := env.keep st.kinds p1.stp
  refine ev1 env1 p1.ok ((FFin.bnd k).on p1.stp) fun d S2 u H2 μ2 f2 p2 k2 => ?_
  have env2 := env1.keep p1.ok.kinds p2.stp
  refine ev1 env2 p2.ok ((FFin.bnd k2).on (p1.stp.trans p2.stp)) fun di S3 w3 H3 μ3 f3 p3 k3 => ?_
  cases e : setItE d di dv S3 with
  | none => rw [e] at k3; exact k3.elim
  | some S' =>
    rw [e] at k3
    have s13 := p2.stp.trans p3.stp
    have r1 : Rep (tOf X C) H3 μ3 dv w f1 := Rep.keep p1.ok.kinds s13 _ _ _ p1.rep (nd_out p1.nd)
    have nd1 : (μ3 ++ f1).Nodup := by
      have := nd_step (f2 := []) s13 p1.nd (by simpa using p3.ok.nd) (Rep.there _ _ _ p1.rep) (by simp)
      simpa using this
    refine ⟨dv, d, di, S3, μ3, f1, f2, f3, S', r1, Rep.keep p2.ok.kinds p3.stp _ _ _ p2.rep (nd_out p2.nd), p3.rep, p3.ok, nd1, e, fun H' μ' so ok' => ?_⟩
    have s3 : Stp H μ H3 μ3 := p1.stp.trans s13
    have s' : Stp H μ H' μ' := StpO.of s3 p1.new (nd_out nd1) so
    exact k3 σ H' μ' s' ok' (env.keep st.kinds s')
end
end Ev
end
section
set_option Elab.async false
set_option linter.all false
set_option maxRecDepth 100000
namespace Ev
open PySem PySem.Spec PyProof.Rows L2 PySem.SeqAt
section
variable {X : Cx} {pins : List (Addr × Obj)} {σ : L2.St} {H : Hp} {s : Shared}
/-- the object of a caught error is known from now on -/
theorem inv_noted {a c : Addr} {o : Obj} {vs : Array Value} (J : Inv X pins σ H s) (e : s.heap.get? a = some o) (hc : o.cls = .ref c) (hd : o.dict = none) (hv : o.data = .fields vs) (ha : H a = none) (h0 : X.s_0.heap.get? a = none)
    (hl : a ≠ X.env.locals) (hp : ∀ p ∈ X.pn ++ pins, p.1 ≠ a) : Inv X pins σ (L2.upd H a (excHO c a)) s := by
  have ne : ∀ {b : Addr} {u : HO}, H b = some u → b ≠ a := fun q z => by rw [z, ha] at q; cases q
  refine ⟨J.ok, J.os, J.bare, ⟨J.base.keep, J.base.slot, fun b u q1 q2 q3 => ?_, J.base.there, fun b xs q => ?_, fun b u xs q => ?_, fun b ps q => ?_⟩, J.loc, J.cell, ?_, fun x k q => ?_, fun p hm => ?_, fun b u q => ?_, J.len⟩
  · rw [upd_ne fun z => by rw [z, h0] at q1; cases q1]
    exact J.base.free b u q1 q2 q3
  · have z := J.base.tups b xs q
    rw [upd_ne (ne z)]; exact z
  · have z := J.base.frzs b u xs q
    rw [upd_ne (ne z)]; exact z
  · obtain ⟨more, z⟩ := J.base.tbls b ps q
    exact ⟨more, by rw [upd_ne (ne z)]; exact z⟩
  · rw [upd_ne fun z => hl z.symm]; exact J.free
  · obtain ⟨w, oc, hoc, hdc⟩ := J.cell x k q
    rw [upd_ne fun z => by rw [z, e] at hoc; cases hoc; rw [hv] at hdc; cases hdc]
    exact J.freeC x k q
  · obtain ⟨z1, z2, z3⟩ := J.pin p hm
    exact ⟨z1, by rw [upd_ne (hp p hm)]; exact z2, z3⟩
  · by_cases hb : b = a
    · subst hb
      rw [upd_same] at q
      cases q
      exact ⟨⟨o, vs, e, hc, hd, hv⟩, ⟨o, e⟩, fun h1 h2 ⟨o', vs', z, r⟩ k => ⟨o', vs', k o' z, r⟩⟩
    · rw [upd_ne hb] at q
      refine (J.hok b u q).stay (fun _ _ _ z => z) (fun k z => ?_) fun k xs z => ?_
      · rw [upd_ne (ne z)]; exact z
      · rw [upd_ne (ne z)]; exact z
end
/-- what is wished of an error in the body: it comes into slot i; j is the slot of the clause's name -/
def wKeep (K : PySem.W.Frag) (c : Value) (i j : Nat) (Wo : WX) (D : Ends) : WX := fun cls d σ H => ∃ b, PySem.W.exmOne K cls c = some b ∧
  (b = true → ∃ r, cls = .ref r ∧ d = none ∧ ∀ a, H a = none → D.nx (((σ.set j (some (.ref a))).set i (some (.ref a))).set j none) (L2.upd H a (excHO r a))) ∧ (b = false → Wo cls d σ H)
theorem try_keep {X : Cx} {x n y : Str} {c : Value} {i j : Nat} {body : List Stmt} {q1 q2 q3 q4 q5 q6 : Pos} {tb : WX → TS} {Wo : WX} (hs : X.stack = X.env :: X.outer) (hf : X.env.frame = some X.env.locals) (hex : X.ex = []) (hN : X.N.Nodup)
    (hi : X.N[i]? = some y) (hy : X.env.scope.names.lookup y = some .local) (hj : X.N[j]? = some n) (hn : X.env.scope.names.lookup n = some .local) (hd1 : (n == ("__debug__" : Str)) = false) (hd2 : (n == ("__classdict__" : Str)) = false) (hc : Names X x c) (tk : Takes X Wo)
    (hb : ∀ (W : WX) (pn : List (Addr × Obj)) (xe : Value → Shared → Prop), Takes (X.tr pn xe) W → PassesOwn (model X.prog X.w) X.A X.env xe → PSs (X.tr pn xe) body (tb W)) :
    L2.PS X (.Try body [.ExceptHandler (some (.Name x q1)) (some n) [.Assign [.Name y q2] (.Name n q3) q4] q5] [] [] q6) (fun D σ H => tb (wKeep X.K c i j Wo D) D σ H) := by
  refine ⟨fun ps s0 σ0 H0 D I0 h0 => ?_⟩
  have okX := I0.ok
  have fr : X.A.frames = some (X.env :: X.outer) := by rw [okX.frames, hs]
  refine wpAny_Try_except ?_
  refine wpAny_mono ((hb (wKeep X.K c i j Wo D) (X.pn ++ ps) _ ?caught PassesOwn.looking).run [] s0 σ0 H0 D (I0.toTry _) h0) ?quiet (fun _ _ z => z)
  case quiet =>
    intro f s1 q
    cases f with
    | next => obtain ⟨σ1, H1, J1, z⟩ := q; exact wpAny_execs_nil ⟨σ1, H1, J1.ofTry okX, z⟩
    | ret v => obtain ⟨w, σ1, H1, J1, r, z⟩ := q; exact ⟨w, σ1, H1, J1.ofTry okX, r, z⟩
    | brk => obtain ⟨σ1, H1, J1, z⟩ := q; exact ⟨σ1, H1, J1.ofTry okX, z⟩
    | cont => obtain ⟨σ1, H1, J1, z⟩ := q; exact ⟨σ1, H1, J1.ofTry okX, z⟩
  case caught =>
    intro u s1 xx
    obtain ⟨a, B, sI, ps1, σ1, H1, cls, d, rfl, J0, nb, up, sky, na, os, ag, b, hm, hyes, hno⟩ := xx
    have J : Inv X ps σ1 H1 sI := J0.ofTry okX
    rw [show (X.tr (X.pn ++ ps) _).stack = X.env :: X.outer from hs] at sky
    show wpAny (model X.prog X.w) X.A (noteFrame (.ref a) X.env) _ _ _
    refine Sky.land Zc.steady fr hf sky fun h3 fl up3 => ?_
    have J3 : Inv X ps σ1 H1 { s1 with heap := h3 } := J.landed nb fl.1 (up.trans up3) os ag
    obtain ⟨o3, v3, e3, z3, d3⟩ := fl.there
    -- a is no frame
    have nofr : a ∉ frs (X.env :: X.outer) := fun m => by
      obtain ⟨_, o, eo, nf⟩ := fl.2.2.1.mem m
      rw [e3] at eo; cases eo
      exact nf _ d3
    have nl : a ≠ X.env.locals := fun z => nofr (List.mem_filterMap.mpr ⟨X.env, List.mem_cons_self, by rw [hf, z]⟩)
    have nfs : a ∉ X.fs := fun m => by
      obtain ⟨e, me, q⟩ := List.mem_filterMap.mp m
      exact nofr (List.mem_filterMap.mpr ⟨e, List.mem_cons_of_mem _ me, q⟩)
    -- a is new
    have new : sI.heap.get? a = none := by
      cases q : sI.heap.get? a with
      | none => rfl
      | some o =>
        have z := nb a o q (by rw [show (X.tr (X.pn ++ ps) _).stack = X.env :: X.outer from hs]; exact nofr)
        rw [fl.2.1] at z; cases z
    have new0 : X.s_0.heap.get? a = none := by
      cases q : X.s_0.heap.get? a with
      | none => rfl
      | some o =>
        obtain ⟨o', z⟩ := J.base.there a o q (by rw [hex]; exact fun z => nomatch z)
        rw [new] at z; cases z
    have npin : ∀ p ∈ X.pn ++ ps, p.1 ≠ a := fun p m z => by
      have q := (J.pin p m).1
      rw [z, new] at q; cases q
    have Js := J3.suite e3 d3 na nl nfs
    refine wpAny_handleBy_cons (codeAny_handlers_test ?_) (by intro z; cases z)
    have lt : PySem.W.Looks (model X.prog X.w) h3 (typeOf (.ref a)) cls := fun A Q E s k q => wpAny_typeOf_ref (k _ _ e3) (by rw [z3.1]; exact q)
    have lm := PySem.W.exm_one (M := model X.prog X.w) J3.kIn lt hm
    have name : ∀ {Q E : Value → Shared → Prop}, Q c { s1 with heap := h3 } → wpAny (model X.prog X.w) (X.A.mark (some (.ref a))) (eval (.Name x q1) X.env) Q E { s1 with heap := h3 } := fun {Q E} q => by
      obtain ⟨g1, g2, g3⟩ := hc
      rcases g3 with g3 | ⟨g3, g4, g5⟩
      · exact ld_glob (X := X.suite a ((a, o3) :: (X.pn ++ ps))) Js g1 g3 q g2
      · exact ld_blt (X := X.suite a ((a, o3) :: (X.pn ++ ps))) Js g1 g3 g4 q g5 g2
    refine name (lm.here ?_)
    cases b with
    | false =>
      show wpAny _ X.A (handleBy (.ref a) X.env []) _ _ _
      refine wpAny_handleBy_nil ?_
      obtain ⟨_, _, _, oe, vs, T, oT, ts, ee, _, ed, e1, _⟩ := id fl
      unfold PySem.passOn
      refine wpAny_bind (wpAny_field ee ed e1 ?_)
      rw [if_neg (show ¬ ((Value.ref T == Value.none) = true) from by simp)]
      have on : wpAny (model X.prog X.w) X.A (setFlight (.ref a) X.env.frame) (fun _ s4 => wpAny (model X.prog X.w) X.A (throw (.ref a) : Sem Flow) (SP X ps D) X.xe s4) X.xe { s1 with heap := h3 } := by
        rw [hf]
        refine HandSPX.setFlight_upZ fl fun h4 held up4 => wpAny_throw (tk _ _ ⟨a, B, sI, ps, σ1, H1, cls, d, rfl, J, nb, (up.trans up3).trans up4, .inr (.inr (by rw [hs]; exact held)), na, os, ag, hno rfl⟩)
      first
        | exact wpAny_bind (wpAny_pure (wpAny_bind on))
        | exact wpAny_bind on
    | true =>
      obtain ⟨r, rfl, rfl, hnx⟩ := hyes rfl
      refine codeAny_handlers_suite_as (HandSPX.lands_againZ fl fun h4 fl4 up4 => ?_)
      have J4 : Inv X ps σ1 H1 { s1 with heap := h4 } := J.landed nb fl4.1 ((up.trans up3).trans up4) os ag
      obtain ⟨o4, v4, e4, z4, d4⟩ := fl4.there
      have J5 := J4.suite e4 d4 na nl nfs
      refine store_ok (X := X.suite a ((a, o4) :: (X.pn ++ ps))) (v := .ref a) J5 hN hj (.inl hn) rfl (fun s5 J6 => ?_) (.inr hn)
      have hlen : j < σ1.length := by rw [J.len]; exact (List.getElem?_eq_some_iff.mp hj).1
      have one : L2.PS (X.suite a ((a, o4) :: (X.pn ++ ps))) (.Assign [.Name y q2] (.Name n q3) q4) (tAsg (tVar j) (gName i)) := ps_set hN hi (.inl hy) (pe_var hj (.inl hn) hd1 hd2) rfl (.inr hy)
      refine wpAny_mono ((pss_cons one pss_nil).run [] s5 _ H1 { nx := fun σ6 H6 => σ6 = (σ1.set j (some (.ref a))).set i (some (.ref a)) ∧ H6 = H1, rt := fun _ _ => False, bk := fun _ _ => False, ct := fun _ _ => False } J6 ⟨.ref a, List.getElem?_set_self hlen, rfl, rfl⟩) (fun f s6 q => ?_) fun _ _ z => z.elim
      cases f with
      | next =>
        obtain ⟨σ6, H6, J7, rfl, rfl⟩ := q
        have pin := (J7.pin (a, o4) (List.mem_append.mpr (.inl List.mem_cons_self))).1
        have J8 := inv_noted (J7.unsuite okX) pin z4.1 z4.2 d4 na new0 nl npin
        exact gone_ok J8 hN hj hn fun s7 J9 => ⟨_, _, J9, hnx a na⟩
      | ret v => obtain ⟨_, _, _, _, _, z⟩ := q; exact z.elim
      | brk => obtain ⟨_, _, _, z⟩ := q; exact z.elim
      | cont => obtain ⟨_, _, _, z⟩ := q; exact z.elim
/-- an own error is made in an except suite -/
theorem pmk5_own {X : Cx} {K : Addr} {bmB : List Value} {B newId initId : String} {nm m : Str} {j : Nat} {p p2 pos : Pos} (F : ExcBaseFacts B newId initId bmB) (q : PySem.W.excIn X.K K bmB newId = true) (gC : X.mg nm = some (.ref K)) (kC : PySem.W.keepIn X.K (.ref K) = true) (r : Raises X (.ref K)) (hg : Gl X nm)
    (hdb : (nm == ("__debug__" : Str)) = false) : L2H.PMk5 X (.Call (.Name nm p) [.Constant (.str m) j p2] [] pos) (fun _ H Q => Q (.ref K) none H) := fun pins s σ H Q I h => by
  have pa : PA X [.Constant (.str m) j p2] (tCons (tC (.str m)) tNil) := pa_cons pe_str pa_nil
  refine wpAny_Call_Name_kw (ld_glob I hg gC (PySem.W.callWith_K (h₀ := X.base) I.ok.mod.kin kC (thn (pa.run pos pins s σ H (fun vs H1 => vs = [V.str m] ∧ H = H1) I ⟨rfl, rfl⟩) fun us s1 ⟨vs, H1, I1, r1, e1, e2⟩ => ?_)) hdb)
  subst e1
  rw [← e2] at I1
  refine ⟨I1.kIn, ?_⟩
  cases r1 with
  | cons ru rn =>
    cases rn
    obtain ⟨bm, N, nm', qn, bs, hdct, sn, sub, ab, col, dd, k0, k1, k2, k3, k5, mN, hC, hN, hni, T⟩ := exc_obj I1.kIn q
    show wpAny _ _ (call (.ref K) [_]) _ _ _
    exact wpAny_call_exc_subT F T hC hN hni (fun h' e hm => L2H.mk_of5 I1 hm r h (I1.hok.gone hm.new)) (by show 1 ≤ sizeLine; decide)
theorem Good.tkc {X : Cx} {C : Nat → Addr} {W : WX} {n : Nat} {g : G} {cc : CC} (G : Good C W n g cc X) (h : cc.md = false) : Takes X W := by
  have tk := G.tk
  rw [h] at tk
  exact tk.zc
section
variable {X : Cx} {C : Nat → Addr} {W : WX} {n : Nat} {g : G} {cc : CC} {e : PE} {x : Expr} {p : Pos}
theorem t_raise {c : Nat} {nm m : Str} {jj : Nat} {p1 p2 p3 : Pos} (G : Good C W n g cc X) (hg : glob cc.sc nm = true) (hx : cc.cnames[c]? = some nm) : L2.PS X (.Raise (some (.Call (.Name nm p1) [.Constant (.str m) jj p2] [] p3)) none p) (tEvS (tOf X C) W g (.raise c)) := by
  obtain ⟨g1, g2, g3⟩ := G.gl hg
  obtain ⟨m1, m2⟩ := G.cls c nm hx
  obtain ⟨k1, k2, k3, k4⟩ := G.ec.made c (m2 c)
  have base : L2.PS X (.Raise (some (.Call (.Name nm p1) [.Constant (.str m) jj p2] [] p3)) none p) (fun _ σ H => W (.ref (C c)) none σ H) := by
    have tk := G.tk
    revert tk
    cases cc.md with
    | true => exact fun tk => L2N.ps_raise G.calm tk.zn (L2N.pmk_own PySem.F.excBase_ValueError k1 m1 k2 (raises_own k3 k4) g1 g2)
    | false => exact fun tk => ps_raise G.calm tk.zc (pmk_own PySem.F.excBase_ValueError k1 m1 k2 (raises_own k3 k4) g1 g2)
  refine PS.mono base fun D σ H ⟨ρ, S, μ, env, st, h⟩ => ?_
  unfold execS at h
  exact h σ H μ Stp.refl st
theorem t_aug {i : Nat} {o : Bin} {nm : Str} {p' : Pos} (G : Good C W n g cc X) (hn : chkNm cc i (.Name nm p') = true) (ho : o = .add ∨ o = .sub) (he : L2.PE X x (tEv (tOf X C) W g e)) : L2.PS X (.AugAssign (.Name nm p') (opOf o) x p) (tEvS (tOf X C) W g (.aug i o e)) := by
  obtain ⟨h1, h2⟩ := Bool.and_eq_true_iff.mp (show (decide (cc.N[i]? = some nm) && loc cc.sc nm) = true from hn)
  have hi : X.N[i]? = some nm := by rw [G.hN]; exact of_decide_eq_true h1
  have hN : X.N.Nodup := by rw [G.hN]; exact G.nd
  have key : ∀ (f : Int → Int → Int), PIp X (opOf o) (ipI f) → (∀ S a b, binE S o (.int a) (.int b) = some (.int (f a b))) → L2.PS X (.AugAssign (.Name nm p') (opOf o) x p) (tEvS (tOf X C) W g (.aug i o e)) := fun f hp hbin => by
    refine PS.mono (ps_aug hN hi (G.sc.loc h2) he hp (G.fn nm h2)) fun D σ H ⟨ρ, S, μ, env, st, h⟩ => ?_
    unfold execS at h
    split at h
    · rename_i d hd
      obtain ⟨v, e1, r1⟩ := env.2 i d hd
      refine ⟨v, e1, ev1 env st h.bnd fun y S1 w H1 μ1 fp q k => ?_⟩
      split at k
      · rename_i a b
        obtain ⟨rfl, _⟩ := r1
        obtain ⟨rfl, _⟩ := q.rep
        rw [hbin] at k
        have hfp : fp = [] := by
          have := q.rep.2
          exact this
        exact ⟨a, b, rfl, rfl, k _ _ _ q.stp q.ok ((env.keep st.kinds q.stp).set ⟨rfl, rfl⟩)⟩
      · exact k.elim
    · exact h.elim
  rcases ho with rfl | rfl
  · exact key (fun a b => a + b) ip_add fun _ _ _ => rfl
  · exact key (fun a b => a - b) ip_sub fun _ _ _ => rfl
theorem t_try {c i j : Nat} {nx ny nn : Str} {p1 p2 p3 p4 p5 p6 : Pos} (G : Good C W n g cc X) (O : Own X) (hmd : cc.md = false) (hx : glob cc.sc nx = true) (hc : cc.cnames[c]? = some nx) (hi : cc.N[i]? = some ny) (hy : isLoc cc ny = true) (hj : cc.N[j]? = some nn) (hn : isLoc cc nn = true)
    (hij : i ≠ j) (hd1 : nn ≠ "__debug__") (hd2 : nn ≠ "__classdict__") (hw : noComp x = true)
    (he : ∀ (W' : WX) (pn : List (Addr × Obj)) (xe : Value → Shared → Prop), Takes (X.tr pn xe) W' → L2.PE (X.tr pn xe) x (tEv (tOf X C) W' g e)) :
    L2.PS X (.Try [.Expr x p6] [.ExceptHandler (some (.Name nx p1)) (some nn) [.Assign [.Name ny p2] (.Name nn p3) p4] p5] [] [] p) (tEvS (tOf X C) W g (.try_ [.expr e] c i j)) := by
  obtain ⟨g1, g2, g3⟩ := G.gl hx
  obtain ⟨m1, m2⟩ := G.cls c nx hc
  refine PS.mono (try_keep (c := .ref (C c)) (i := i) (j := j) (Wo := W) (tb := fun W' => tDrop (tEv (tOf X C) W' g e)) O.hs O.hf O.hex (by rw [G.hN]; exact G.nd) (by rw [G.hN]; exact hi) (isLoc_ok G hy) (by rw [G.hN]; exact hj) (isLoc_ok G hn) (beq_eq_false_iff_ne.mpr hd1) (beq_eq_false_iff_ne.mpr hd2) ⟨g1, g2, .inl m1⟩ (G.tkc hmd)
    fun W' pn xe tk _ => PSs.mono (pss_cons (ps_expr (he W' pn xe tk) (sw_no hw)) pss_nil) fun D σ H h => h) fun D σ H ⟨ρ, S, μ, env, st, h⟩ => ?_
  refine ⟨ρ, S, μ, env, st, ?_⟩
  unfold execS execB execS execB at h
  cases hv : evalE g e ρ S with
  | none => rw [hv] at h; exact h.elim
  | some q =>
    rw [hv] at h
    cases q with
    | ok d S1 => exact fun v H1 μ1 fp p => h σ H1 μ1 p.stp p.ok (env.keep st.kinds p.stp)
    | ex cx S1 =>
      intro H1 μ1 s1 ok1
      refine ⟨g.isa cx (.cls c), G.ec.exm cx c (m2 cx), fun hb => ⟨C cx, rfl, rfl, fun a ha => ?_⟩, fun hb => ?_⟩
      · have h' : FFin (tOf X C) W H μ D (some (.nx ((ρ.set i (some (.exc cx))).set j none), S1)) := by
          have h0 : FFin (tOf X C) W H μ D (if g.isa cx (.cls c) then some (.nx ((ρ.set i (some (.exc cx))).set j none), S1) else some (.ex cx, S1)) := h
          rwa [if_pos hb] at h0
        have hs : ((σ.set j (some (V.ref a))).set i (some (V.ref a))).set j none = (σ.set i (some (V.ref a))).set j none := by
          rw [List.set_comm _ _ (Ne.symm hij), List.set_set]
        rw [hs]
        have su : Stp H1 μ1 (L2.upd H1 a (excHO (C cx) a)) μ1 := Stp.upd ha
        have sm : Same H1 (L2.upd H1 a (excHO (C cx) a)) := fun b o q => by rw [upd_ne (ne_of_none q ha)]; exact q
        have nm : a ∉ μ1 := fun m => by
          rcases ok1.kinds a m with ⟨vs, z⟩ | ⟨vs, z⟩ | ⟨vs, z⟩ <;> (rw [ha] at z; cases z)
        refine h' _ _ μ1 (s1.trans su) (StOk.same sm ok1) (EnvOk.drop (EnvOk.set ((env.keep st.kinds s1).keep ok1.kinds su) ⟨a, rfl, upd_same, ⟨nm, m2 cx⟩, rfl⟩))
      · have h0 : FFin (tOf X C) W H μ D (if g.isa cx (.cls c) then some (.nx ((ρ.set i (some (.exc cx))).set j none), S1) else some (.ex cx, S1)) := h
        rw [if_neg (by simp [hb])] at h0
        exact h0 σ H1 μ1 s1 ok1
theorem set_here {σ : Slots} {i : Nat} {v : V} (h : σ[i]? = some (some v)) : σ.set i (some v) = σ := by
  obtain ⟨hl, e⟩ := List.getElem?_eq_some_iff.mp h
  rw [← e]
  exact List.set_getElem_self hl
theorem t_augL {i : Nat} {nm : Str} {p' : Pos} (G : Good C W n g cc X) (hn : chkNm cc i (.Name nm p') = true) (he : L2.PE X x (tEv (tOf X C) W g e)) : L2.PS X (.AugAssign (.Name nm p') .Add x p) (tEvS (tOf X C) W g (.augL i e)) := by
  obtain ⟨h1, h2⟩ := Bool.and_eq_true_iff.mp (show (decide (cc.N[i]? = some nm) && loc cc.sc nm) = true from hn)
  have hi : X.N[i]? = some nm := by rw [G.hN]; exact of_decide_eq_true h1
  have hN : X.N.Nodup := by rw [G.hN]; exact G.nd
  refine PS.mono (ps_aug hN hi (G.sc.loc h2) he (show PIp X .Add rExt2 from iop_ext) (G.fn nm h2)) fun D σ H ⟨ρ, S, μ, env, st, h⟩ => ?_
  unfold execS at h
  split at h
  · rename_i k hd
    obtain ⟨v, e1, r1⟩ := env.2 i _ hd
    obtain ⟨l, rfl, hm, _⟩ := r1
    refine ⟨_, e1, ev1 env st h.bnd fun y S1 w H1 μ1 fp q k1 => ?_⟩
    split at k1
    · rename_i es
      split at k1
      · rename_i ds hS
        split at k1
        · rename_i hl
          obtain ⟨b, vs, fp', rfl, hb, rv, rfl⟩ := q.rep
          have hm1 := q.stp.get hm
          obtain ⟨xs, hx, rs⟩ := q.ok.at_ _ _ _ hS hm1
          have nd' : (μ1 ++ fp').Nodup := by
            have z := q.nd
            rw [← List.append_assoc] at z
            exact (List.nodup_append.mp z).1
          obtain ⟨g1, g2⟩ := settles_ok es vs fp' μ1 S1 rv q.ok nd'
          have kf := Reps.kinds es vs fp' rv
          have hm' : (μ1 ++ fp')[_]? = some l := widen_g _ l hm1
          have ok' := put_list g2 hm' (Reps.append _ _ _ _ _ _ (Reps.widen kf _ _ _ rs) g1)
          have nw : ∀ a ∈ fp', H a = none := fun a m => q.new a (List.mem_append_left _ m)
          have st' : Stp H μ (upd H1 l (.lst (xs ++ vs))) (μ1 ++ fp') := StpO.of q.stp nw (nd_out nd') (StpO.put (List.mem_of_getElem? hm1) fun b hb => hb)
          refine ⟨l, b, xs, vs, rfl, rfl, hx, hb, by rw [Reps.len _ _ _ rs, Reps.len _ _ _ rv]; exact of_decide_eq_true hl, ?_⟩
          show D.nx (σ.set i (some (.ref l))) _
          rw [set_here e1]
          exact k1 σ _ _ st' ok' (env.keep st.kinds st')
        · exact k1.elim
      · exact k1.elim
    · exact k1.elim
  · exact h.elim
theorem t_tryS {c i : Nat} {nx nm : Str} {py ps p1 p5 : Pos} {b₀ : Stmt} {suite : List Stmt} (G : Good C W n g cc X) (O : Own X) (hmd : cc.md = false) (hx : glob cc.sc nx = true) (hc : cc.cnames[c]? = some nx) (hn : chkNm cc i (.Name nm py) = true) (hw : noComp x = true)
    (he : ∀ (W' : WX) (pn : List (Addr × Obj)) (xe : Value → Shared → Prop) (tk : Takes (X.tr pn xe) W'), L2.PE (X.tr pn xe) x (tEv (tOf X C) W' g e) ∧ Good C W' n g cc (X.tr pn xe)) :
    L2.PS X (.Try [.Assign [.Name nm py] x ps] [.ExceptHandler (some (.Name nx p1)) none (b₀ :: suite) p5] [] [] p) (tEvS (tOf X C) W g (.tryS i e c)) := by
  obtain ⟨g1, g2, g3⟩ := G.gl hx
  obtain ⟨m1, m2⟩ := G.cls c nx hc
  refine PS.mono (ps_try_only (c := .ref (C c)) (Wout := W) (tb := fun W' => tEvB (tOf X C) W' g [.set i e]) (ts := fun _ _ _ _ _ _ => False) O.hs O.hf ⟨g1, g2, .inl m1⟩ (G.tkc hmd)
    (fun W' pn xe tk _ => ?_) fun a oe cls d pn _ _ => ⟨fun _ _ _ _ _ _ z => z.elim⟩) fun D σ H ⟨ρ, S, μ, env, st, h⟩ => ?_
  · obtain ⟨h1, h2⟩ := he W' pn xe tk
    exact PSs.mono (pss_cons (t_set h2 hn h1 hw) pss_nil) fun D σ H ⟨ρ, S, μ, env, st, h⟩ => by
      refine ⟨ρ, S, μ, env, st, ?_⟩
      unfold execB at h
      revert h
      cases execS g (.set i e) ρ S with
      | none => exact fun h => h
      | some r =>
        obtain ⟨fl, S1⟩ := r
        cases fl with
        | nx ρ1 =>
          intro h σ' H' μ' s1 ok1 env1
          have h' : FFin (tOf X C) W' H μ D (execB g [] ρ1 S1) := h
          unfold execB at h'
          exact h' σ' H' μ' s1 ok1 env1
        | ret d => exact fun h => h
        | ex c => exact fun h => h
  · refine ⟨ρ, S, μ, env, st, ?_⟩
    unfold execS at h
    unfold execB execS
    cases hv : evalE g e ρ S with
    | none => rw [hv] at h; exact h.elim
    | some q =>
      rw [hv] at h
      cases q with
      | ok d S1 => unfold execB; exact h
      | ex cx S1 =>
        intro σ1 H1 μ1 s1 ok1
        have h0 : FFin (tOf X C) W H μ D (if g.isa cx (.cls c) then none else some (.ex cx, S1)) := h
        refine ⟨g.isa cx (.cls c), G.ec.exm cx c (m2 cx), fun hb => ?_, fun hb => ?_⟩
        · rw [if_pos hb] at h0; exact h0.elim
        · rw [if_neg (by simp [hb])] at h0
          exact h0 σ1 H1 μ1 s1 ok1
theorem t_tryC {c i : Nat} {nx nm : Str} {py ps p1 p5 q1 q2 q3 : Pos} {d0 : D} {k0 : Const} {j0 : Nat} (G : Good C W n g cc X) (O : Own X) (hmd : cc.md = false) (hx : glob cc.sc nx = true) (hc : cc.cnames[c]? = some nx) (hn : chkNm cc i (.Name nm py) = true) (hw : noComp x = true) (hk : cstOk d0 k0 = true)
    (he : ∀ (W' : WX) (pn : List (Addr × Obj)) (xe : Value → Shared → Prop), Tk false (X.tr pn xe) W' → L2.PE (X.tr pn xe) x (tEv (tOf X C) W' g e)) :
    L2.PS X (.Try [.Assign [.Name nm py] x ps] [.ExceptHandler (some (.Name nx p1)) none [.Assign [.Name nm q1] (.Constant k0 j0 q2) q3] p5] [] [] p) (tEvS (tOf X C) W g (.tryC i e c d0)) := by
  obtain ⟨g1, g2, g3⟩ := G.gl hx
  obtain ⟨m1, m2⟩ := G.cls c nx hc
  obtain ⟨n1, n2⟩ := Bool.and_eq_true_iff.mp (show (decide (cc.N[i]? = some nm) && loc cc.sc nm) = true from hn)
  obtain ⟨v0, _, hv0⟩ := s_const (X := X) (p := q2) (j := j0) hk
  refine PS.mono (ps_try_only (c := .ref (C c)) (Wout := W) (tb := fun W' => tAsg (tEv (tOf X C) W' g e) (gName i)) (ts := fun _ _ _ D σ H => D.nx (σ.set i (some v0)) H) O.hs O.hf ⟨g1, g2, .inl m1⟩ (G.tkc hmd)
    (fun W' pn xe tk _ => ?_) fun a oe cls d pn _ _ => ?_) fun D σ H ⟨ρ, S, μ, env, st, h⟩ => ?_
  · exact PSs.mono (pss_cons (ps_set (by show X.N.Nodup; rw [G.hN]; exact G.nd) (by show X.N[i]? = _; rw [G.hN]; exact of_decide_eq_true n1) (G.sc.loc n2) (he W' pn xe tk) (sw_no hw) (G.fn nm n2)) pss_nil) fun D σ H h => h
  · have sN : (X.suite a ((a, oe) :: pn)).N[i]? = some nm := by show X.N[i]? = _; rw [G.hN]; exact of_decide_eq_true n1
    obtain ⟨v1, c1, c2⟩ := s_const (X := X.suite a ((a, oe) :: pn)) (p := q2) (j := j0) hk
    have ev : v1 = v0 := by cases d0 <;> first | exact c2.trans hv0.symm | exact c2.elim
    subst ev
    exact PSs.mono (pss_cons (ps_set (by show X.N.Nodup; rw [G.hN]; exact G.nd) sN (G.sc.loc n2) c1 rfl (G.fn nm n2)) pss_nil) fun D σ H h => h
  · refine ⟨ρ, S, μ, env, st, ?_⟩
    unfold execS at h
    cases hv : evalE g e ρ S with
    | none => rw [hv] at h; exact h.elim
    | some q =>
      rw [hv] at h
      cases q with
      | ok d S1 => exact fun v H1 μ1 fp p => FFin.tg (tg := .nm i) env st.kinds p h
      | ex cx S1 =>
        intro H1 μ1 s1 ok1
        have h0 : FFin (tOf X C) W H μ D (if g.isa cx (.cls c) then some (.nx (ρ.set i (some d0)), S1) else some (.ex cx, S1)) := h
        refine ⟨g.isa cx (.cls c), G.ec.exm cx c (m2 cx), fun hb a _ => ?_, fun hb => ?_⟩
        · rw [if_pos hb] at h0
          exact h0 _ H1 μ1 s1 ok1 ((env.keep st.kinds s1).set hv0.rep)
        · rw [if_neg (by simp [hb])] at h0
          exact h0 σ H1 μ1 s1 ok1
theorem t_tryR {c c' i : Nat} {nx nm ny m : Str} {py ps p1 p5 q1 q2 q3 q4 q5 : Pos} {jj j2 : Nat} (G : Good C W n g cc X) (O : Own X) (hmd : cc.md = false) (hpa : ∀ hd : Option Value, PassesOwnAt (model X.prog X.w) (X.A.mark hd) X.A X.env X.xe) (hx : glob cc.sc nx = true) (hc : cc.cnames[c]? = some nx)
    (hy : glob cc.sc ny = true) (hcy : cc.cnames[c']? = some ny) (hn : chkNm cc i (.Name nm py) = true) (hw : noComp x = true) (he : ∀ (W' : WX) (pn : List (Addr × Obj)) (xe : Value → Shared → Prop), Tk true (X.tr pn xe) W' → L2.PE (X.tr pn xe) x (tEv (tOf X C) W' g e)) :
    L2.PS X (.Try [.Assign [.Name nm py] x ps] [.ExceptHandler (some (.Name nx p1)) none [.Raise (some (.Call (.Name ny q1) [.Constant (.str m) jj q2] [] q3)) (some (.Constant .none j2 q4)) q5] p5] [] [] p) (tEvS (tOf X C) W g (.tryR i e c c')) := by
  obtain ⟨g1, g2, g3⟩ := G.gl hx
  obtain ⟨m1, m2⟩ := G.cls c nx hc
  obtain ⟨y1, y2, y3⟩ := G.gl hy
  obtain ⟨w1, w2⟩ := G.cls c' ny hcy
  obtain ⟨k1, k2, k3, k4⟩ := G.ec.made c' (w2 c')
  obtain ⟨n1, n2⟩ := Bool.and_eq_true_iff.mp (show (decide (cc.N[i]? = some nm) && loc cc.sc nm) = true from hn)
  refine PS.mono (L2H.ps_try_onlyX (c := .ref (C c)) (Wout := W) (tb := fun W' => tAsg (tEv (tOf X C) W' g e) (gName i)) (ts := fun _ _ _ _ σ H => W (.ref (C c')) none σ H) O.hs O.hf ⟨g1, g2, .inl m1⟩ hpa (G.tkc hmd)
    (fun W' pn xe tk _ _ => ?_) fun a oe cls d pn _ _ tk hot => ?_) fun D σ H ⟨ρ, S, μ, env, st, h⟩ => ?_
  · exact PSs.mono (pss_cons (ps_set (by show X.N.Nodup; rw [G.hN]; exact G.nd) (by show X.N[i]? = _; rw [G.hN]; exact of_decide_eq_true n1) (G.sc.loc n2) (he W' pn xe tk) (sw_no hw) (G.fn nm n2)) pss_nil) fun D σ H h => h
  · exact PSs.mono (pss_cons (L2H.ps_raiseHN hot tk (pmk5_own PySem.F.excBase_ValueError k1 w1 k2 (raises_own k3 k4) y1 y2)) pss_nil) fun D σ H h => h
  · refine ⟨ρ, S, μ, env, st, ?_⟩
    unfold execS at h
    cases hv : evalE g e ρ S with
    | none => rw [hv] at h; exact h.elim
    | some q =>
      rw [hv] at h
      cases q with
      | ok d S1 => exact fun v H1 μ1 fp p => FFin.tg (tg := .nm i) env st.kinds p h
      | ex cx S1 =>
        intro H1 μ1 s1 ok1
        have h0 : FFin (tOf X C) W H μ D (if g.isa cx (.cls c) then some (.ex c', S1) else some (.ex cx, S1)) := h
        refine ⟨g.isa cx (.cls c), G.ec.exm cx c (m2 cx), fun hb a _ => ?_, fun hb => ?_⟩
        · rw [if_pos hb] at h0
          exact h0 σ H1 μ1 s1 ok1
        · rw [if_neg (by simp [hb])] at h0
          exact h0 σ H1 μ1 s1 ok1
end
end Ev
end
section
set_option Elab.async false
set_option linter.all false
set_option maxRecDepth 100000
namespace Ev
open PySem PySem.Spec PyProof.Rows L2 PySem.SeqAt
/-! ### while, counted -/
def WRun (c : Env → Sto → Option (R D)) (b : Env → Sto → Option (Fl × Sto)) : Nat → Env → Sto → Fl × Sto → Prop
  | 0, _, _, _ => False
  | n + 1, ρ, S, r => match c ρ S with
    | none => False
    | some (.ex x S) => r = (.ex x, S)
    | some (.ok d S) => match truth S d with
      | none => False
      | some false => r = (.nx ρ, S)
      | some true => match b ρ S with
        | none => False
        | some (.ret d, S) => r = (.ret d, S)
        | some (.ex x, S) => r = (.ex x, S)
        | some (.nx ρ', S') => WRun c b n ρ' S' r
theorem wrun_of {c : Env → Sto → Option (R D)} {b : Env → Sto → Option (Fl × Sto)} : ∀ (ρ : Env) (S : Sto) (r : Fl × Sto), whileL c b ρ S = some r → ∃ n, WRun c b n ρ S r := by
  refine whileL.partial_correctness c b (fun ρ S r => ∃ n, WRun c b n ρ S r) fun wl ih ρ S r h => ?_
  cases hc : c ρ S with
  | none => simp only [hc] at h; cases h
  | some q =>
    cases q with
    | ex x S1 =>
      simp only [hc] at h
      exact ⟨1, by unfold WRun; rw [hc]; exact (Option.some.inj h).symm⟩
    | ok d S1 =>
      simp only [hc] at h
      cases ht : truth S1 d with
      | none => simp only [ht] at h; cases h
      | some t =>
        cases t with
        | false =>
          simp only [ht] at h
          exact ⟨1, by unfold WRun; simp only [hc, ht]; exact (Option.some.inj h).symm⟩
        | true =>
          simp only [ht] at h
          cases hb : b ρ S1 with
          | none => simp only [hb] at h; cases h
          | some q =>
            obtain ⟨fl, S2⟩ := q
            cases fl with
            | ret d2 =>
              simp only [hb] at h
              exact ⟨1, by unfold WRun; simp only [hc, ht, hb]; exact (Option.some.inj h).symm⟩
            | ex d2 =>
              simp only [hb] at h
              exact ⟨1, by unfold WRun; simp only [hc, ht, hb]; exact (Option.some.inj h).symm⟩
            | nx ρ2 =>
              simp only [hb] at h
              obtain ⟨n, hn⟩ := ih ρ2 S2 r h
              exact ⟨n + 1, by unfold WRun; simp only [hc, ht, hb]; exact hn⟩
section
variable {X : Cx} {C : Nat → Addr} {W : WX} {n m : Nat} {g : G} {cc : CC} {a b c e : PE} {x y z : Expr} {p p' : Pos} {es : List PE} {xs : List Expr} {body : List PS} {sts : List Stmt}
theorem t_expr (he : L2.PE X x (tEv (tOf X C) W g e)) (hx : noComp x = true) : L2.PS X (.Expr x p) (tEvS (tOf X C) W g (.expr e)) := by
  refine PS.mono (ps_expr he (sw_no hx)) fun D σ H ⟨ρ, S, μ, env, st, h⟩ => ?_
  unfold execS at h
  exact ev1 env st h.bnd fun d S1 v H1 μ1 fp p k => k σ H1 μ1 p.stp p.ok (env.keep st.kinds p.stp)
theorem t_ret (he : L2.PE X x (tEv (tOf X C) W g e)) : L2.PS X (.Return (some x) p) (tEvS (tOf X C) W g (.ret e)) := by
  refine PS.mono (ps_ret he) fun D σ H ⟨ρ, S, μ, env, st, h⟩ => ?_
  unfold execS at h
  exact ev1 env st h.bnd fun d S1 v H1 μ1 fp p k => k v H1 μ1 fp p
theorem t_if {as bs : List PS} {ys zs : List Stmt} (hc : PT X x (tEvT (tOf X C) W g c)) (ha : PSs X ys (tEvB (tOf X C) W g as)) (hb : PSs X zs (tEvB (tOf X C) W g bs)) : L2.PS X (.If x ys zs p) (tEvS (tOf X C) W g (.ife c as bs)) := by
  refine PS.mono (ps_if hc ha hb) fun D σ H ⟨ρ, S, μ, env, st, h⟩ => ?_
  unfold execS at h
  refine evT1 env st h.tests fun t S1 H1 μ1 s ok k => ?_
  cases t with
  | true =>
    rw [if_pos rfl] at k ⊢
    exact ⟨ρ, S1, μ1, env.keep st.kinds s, ok, FFin.on s k⟩
  | false =>
    rw [if_neg (by decide)] at k ⊢
    exact ⟨ρ, S1, μ1, env.keep st.kinds s, ok, FFin.on s k⟩
theorem t_while (hp : PassesOwn (model X.prog X.w) X.A X.env X.xe) (hc : PT X x (tEvT (tOf X C) W g c)) (hb : PSs X sts (tEvB (tOf X C) W g body)) : L2.PS X (.While x sts [] p) (tEvS (tOf X C) W g (.while_ c body)) := by
  refine PS.mono (ps_while hp hc hb) fun D σ H ⟨ρ, S, μ, env, st, h⟩ => ?_
  unfold execS at h
  cases hr : whileL (fun ρ S => evalE g c ρ S) (fun ρ S => execB g body ρ S) ρ S with
  | none => rw [hr] at h; exact h.elim
  | some r =>
    rw [hr] at h
    obtain ⟨m0, w0⟩ := wrun_of ρ S r hr
    refine ⟨fun m σ' H' => ∃ ρ' S' μ', EnvOk (tOf X C) H' μ' σ' ρ' ∧ StOk (tOf X C) H' μ' S' ∧ Stp H μ H' μ' ∧ WRun (fun ρ S => evalE g c ρ S) (fun ρ S => execB g body ρ S) m ρ' S' r, ⟨m0, ρ, S, μ, env, st, Stp.refl, w0⟩, fun m σ1 H1 ⟨ρ1, S1, μ1, env1, st1, s1, w1⟩ => ?_⟩
    cases m with
    | zero => exact w1.elim
    | succ m =>
      unfold WRun at w1
      refine ⟨ρ1, S1, μ1, env1, st1, ?_⟩
      cases hcv : evalE g c ρ1 S1 with
      | none => simp only [hcv] at w1
      | some q =>
        cases q with
        | ex cx S2 =>
          simp only [hcv] at w1
          subst w1
          exact fun H' μ' s' ok' => h σ1 H' μ' (s1.trans s') ok'
        | ok d S2 =>
          simp only [hcv] at w1
          cases ht : truth S2 d with
          | none => simp only [ht] at w1
          | some t =>
            have ev : testE (some (R.ok d S2)) = some (.ok t S2) := by
              show (match truth S2 d with | some b => some (R.ok b S2) | none => none) = _
              rw [ht]
            rw [ev]
            intro H2 μ2 s2 ok2
            have env2 := env1.keep st1.kinds s2
            cases t with
            | false =>
              rw [if_neg (by decide)]
              simp only [ht] at w1
              subst w1
              exact h σ1 H2 μ2 (s1.trans s2) ok2 env2
            | true =>
              rw [if_pos rfl]
              simp only [ht] at w1
              refine ⟨_, fun σ' H' hn => ⟨m, Nat.lt_succ_self m, hn⟩, ρ1, S2, μ2, env2, ok2, ?_⟩
              have s12 := s1.trans s2
              cases hbv : execB g body ρ1 S2 with
              | none => simp only [hbv] at w1
              | some q =>
                obtain ⟨fl, S3⟩ := q
                simp only [hbv] at w1
                cases fl with
                | ret d3 => subst w1; exact fun v H' μ' fp p => h v H' μ' fp ⟨s12.trans p.stp, p.ok, p.rep, p.nd, fun a m => s12.free (p.new a m)⟩
                | ex d3 => subst w1; exact fun σ' H' μ' s' ok' => h σ' H' μ' (s12.trans s') ok'
                | nx ρ3 => exact fun σ' H' μ' s' ok' env' => ⟨ρ3, S3, μ', env', ok', s12.trans s', w1⟩
theorem t_for {tg : Tg} {k : ItK} {tgx iter : Expr} (G : Good C W n g cc X) (hp : PassesOwn (model X.prog X.w) X.A X.env X.xe) (hi : PI X tgx iter (tIt (tOf X C) W g k es)) (ht : chkTg cc tg tgx = true) (hs : noSet iter = true)
    (hb : PSs X sts (tEvB (tOf X C) W g body)) : L2.PS X (.For tgx iter sts [] p) (tEvS (tOf X C) W g (.for_ tg k es body)) := by
  refine PS.mono (ps_for hp G.calm hi (pg_tg G ht) hb (folded hs)) fun D σ H ⟨ρ, S, μ, env, st, h⟩ => ?_
  unfold execS at h
  refine ⟨ρ, S, μ, env, st, h.bnd.imp fun ds S1 _ k1 => ?_⟩
  cases hit : itemsOf S1 k ds with
  | none => rw [hit] at k1; exact k1.elim
  | some q0 =>
    obtain ⟨its, lk⟩ := q0
    rw [hit] at k1
    refine ⟨its, lk, rfl, fun J H1 μ1 s1 ok1 bg => ?_⟩
    obtain ⟨Gw, wk, g0⟩ := bg.fwd
    generalize hf : (fun d ρ S => match setTg tg d ρ S with
        | some (ρ', S) => execB g body ρ' S
        | none => none) = f at k1
    refine ⟨fun i m σ' Hc => i + m = its.length ∧ ∃ ρ' S' μ', EnvOk (tOf X C) Hc μ' σ' ρ' ∧ StOk (tOf X C) Hc μ' S' ∧ Stp H μ Hc μ' ∧ Gw i Hc μ' ∧ FFin (tOf X C) W H μ D (forL lk f (its.drop i) ρ' S'),
      ⟨its.length, by simp, ρ, S1, μ1, env.keep st.kinds s1, ok1, s1, g0, k1⟩, fun i m σ' Hc ⟨him, ρ', S', μ', envc, okc, sc, gc, fc⟩ => ?_⟩
    by_cases hil : its.length ≤ i
    · left
      rw [List.drop_eq_nil_of_le hil] at fc
      obtain ⟨h1, h2⟩ := FFin.guard (show FFin (tOf X C) W H μ D (guardS lk S' (some (.nx ρ', S'))) from fc)
      exact ⟨wk.stop i Hc μ' S' hil gc okc h1, h2 σ' Hc μ' sc okc envc⟩
    · right
      have hil' : i < its.length := by omega
      rw [List.drop_eq_getElem_cons hil'] at fc
      obtain ⟨hst, fc2⟩ := FFin.guard (show FFin (tOf X C) W H μ D (guardS lk S' (seqS (f its[i] ρ' S') fun ρ S => forL lk f (its.drop (i + 1)) ρ S)) from fc)
      obtain ⟨jgo, jit⟩ := wk.item i its[i] Hc μ' S' (List.getElem?_eq_getElem hil') gc okc hst
      refine ⟨jgo, _, fun σ' H' hn => ⟨m - 1, by omega, hn⟩, fun v H' yl => ?_⟩
      obtain ⟨sm, f1, r1, nd1, nw1, g1⟩ := jit v H' yl
      have sca : Stp H μ H' (μ' ++ f1) := Stp.own (own := []) (sc.trans (Same.stp sm)) fun a m => (nw1 a m).1
      cases est : setTg tg its[i] ρ' S' with
      | none => rw [← hf] at fc2; simp only [est] at fc2; exact fc2.elim
      | some q =>
        obtain ⟨ρ2, S2⟩ := q
        have ef : f its[i] ρ' S' = execB g body ρ2 S2 := by rw [← hf]; simp only [est]
        rw [ef] at fc2
        refine setTg_ok (envc.keep okc.kinds (Same.stp sm)) (StOk.same sm okc) r1 nd1 est fun σ2 env2 ok2 _ => ⟨ρ2, S2, μ' ++ f1, env2, ok2, ?_⟩
        cases hbv : execB g body ρ2 S2 with
        | none => rw [hbv] at fc2; exact fc2.elim
        | some q =>
          obtain ⟨fl, S3⟩ := q
          rw [hbv] at fc2
          cases fl with
          | ret d3 => exact fun v H' μ' fp p => fc2 v H' μ' fp ⟨sca.trans p.stp, p.ok, p.rep, p.nd, fun a m => sca.free (p.new a m)⟩
          | ex d3 => exact fun σ' H' μ' s' ok' => fc2 σ' H' μ' (sca.trans s') ok'
          | nx ρ3 => exact fun σ3 H3 μ3 s3 ok3 env3 => ⟨by omega, ρ3, S3, μ3, env3, ok3, sca.trans s3, wk.keep _ _ _ _ _ g1 ok2.kinds s3 ok3.nd, fc2⟩
theorem b_nil : PSs X [] (tEvB (tOf X C) W g []) := by
  refine PSs.mono pss_nil fun D σ H ⟨ρ, S, μ, env, st, h⟩ => ?_
  unfold execB at h
  exact h σ H μ Stp.refl st env
theorem b_skip {st : Stmt} {ss : List PS} (h1 : L2.PS X st tNext) (h : PSs X sts (tEvB (tOf X C) W g ss)) : PSs X (st :: sts) (tEvB (tOf X C) W g ss) :=
  PSs.mono (pss_cons h1 h) fun D σ H h => h
theorem b_cons {s : PS} {st : Stmt} {ss : List PS} (h1 : L2.PS X st (tEvS (tOf X C) W g s)) (h2 : PSs X sts (tEvB (tOf X C) W g ss)) : PSs X (st :: sts) (tEvB (tOf X C) W g (s :: ss)) := by
  refine PSs.mono (pss_cons h1 h2) fun D σ H ⟨ρ, S, μ, env, st, h⟩ => ⟨ρ, S, μ, env, st, ?_⟩
  unfold execB at h
  cases hv : execS g s ρ S with
  | none => rw [hv] at h; exact h.elim
  | some q =>
    obtain ⟨fl, S1⟩ := q
    rw [hv] at h
    cases fl with
    | ret d => exact h
    | ex d => exact h
    | nx ρ1 => exact fun σ1 H1 μ1 s1 ok1 env1 => ⟨ρ1, S1, μ1, env1, ok1, FFin.on s1 h⟩
end
/-! ### does the text say that -/
def chkB (f : PS → Stmt → Bool) : List PS → List Stmt → Bool
  | [], [] => true
  | ss, .Expr (.Constant (.str _) _ _) _ :: r => chkB f ss r
  | ss, .Pass _ :: r => chkB f ss r
  | s :: ss, t :: r => f s t && chkB f ss r
  | _, _ => false
def parA (cc : CC) : List Nat → List Expr → List Expr → Bool
  | [i, j], [.Name x1 px, .Name x2 py], [v1, v2] => decide (cc.N[i]? = some x1) && decide (cc.N[j]? = some x2) && decide (i ≠ j) && isLoc cc x1 && isLoc cc x2 && decide (x1 ≠ x2) && (py.line == px.line) && !([v1, v2].all (foldedForSure 8)) && !([v1, v2].all (constantsAlone 8))
  | _, _, _ => false
def fuelE : Nat := 60
def isLC : Expr → Bool
  | .ListComp _ _ _ _ => true
  | _ => false
def chkLC (cc : CC) (i : Nat) (py : Pos) (nm : Str) : PE → Expr → Bool
  | .comp tg k es ifs elt, .ListComp y [⟨tgx, iter, ifsx, 0⟩] scope _ =>
    chkNm cc i (.Name nm py) && chkI fuelE cc k es tgx iter && noSet iter && chkTg { cc with sc := scope, top := false } tg tgx && decide ((ownOf tg tgx).map (·.2) = tgIs tg) && blkC cc.N cc.sc scope (ownOf tg tgx) &&
    (match ifs, ifsx with | [], [] => true | [c], [cx] => chkE fuelE { cc with sc := scope, top := false } c cx | _, _ => false) && chkE fuelE { cc with sc := scope, top := false } elt y
  | .compX tg k es ifs elt, .ListComp y [⟨tgx, iter, ifsx, 0⟩] scope _ =>
    cc.top && chkNm cc i (.Name nm py) && chkI fuelE cc k es tgx iter && noSet iter && chkTg { cc with sc := scope, top := false } tg tgx && decide ((ownOf tg tgx).map (·.2) = tgIs tg) && blkC cc.N cc.sc scope (ownOf tg tgx) &&
    (match ifs, ifsx with | [], [] => true | [c], [cx] => chkE fuelE { cc with sc := scope, top := false } c cx | _, _ => false) && chkE fuelE { cc with sc := scope, top := false } elt y
  | _, _ => false
def chkS : Nat → CC → PS → Stmt → Bool
  | 0, _, _, _ => false
  | _ + 1, cc, .set i e, .Assign [.Name nm py] x _ => if isLC x then chkLC cc i py nm e x else chkNm cc i (.Name nm py) && chkE fuelE cc e x && noComp x
  | _ + 1, cc, .setT is e, .Assign [.Tuple ts kk pt] x _ => chkTg cc (.tp is) (.Tuple ts kk pt) && chkE fuelE cc e x && !isTup x
  | _ + 1, cc, .par is es, .Assign [.Tuple ts kk pt] (.Tuple vs k2 p2) _ => all2 (chkE fuelE cc) es vs && vs.all noStar && decide (vs.length ≤ 1000) && (parA cc is ts vs || (chkTg cc (.tp is) (.Tuple ts kk pt) && vs.all (foldedForSure 8)))
  | _ + 1, cc, .setI o i v, .Assign [.Subscript ox ix _] vx _ => chkE fuelE cc o ox && chkE fuelE cc i ix && chkE fuelE cc v vx && noSlice ix
  | _ + 1, cc, .expr e, .Expr x _ => chkE fuelE cc e x && noComp x
  | _ + 1, cc, .ret e, .Return (some x) _ => chkE fuelE cc e x
  | n + 1, cc, .ife c as bs, .If x ys zs _ => chkE fuelE cc c x && chkB (chkS n cc) as ys && chkB (chkS n cc) bs zs
  | n + 1, cc, .while_ c as, .While x ys [] _ => chkE fuelE cc c x && chkB (chkS n cc) as ys
  | n + 1, cc, .for_ tg k es as, .For tgx iter ys [] _ => chkI fuelE cc k es tgx iter && chkTg cc tg tgx && noSet iter && chkB (chkS n cc) as ys
  | _ + 1, cc, .raise c, .Raise (some (.Call (.Name nm _) [.Constant (.str _) _ _] [] _)) none _ => glob cc.sc nm && decide (cc.cnames[c]? = some nm)
  | _ + 1, cc, .aug i o e, .AugAssign (.Name nm p) op x _ => chkNm cc i (.Name nm p) && decide (op = opOf o) && (decide (o = .add) || decide (o = .sub)) && chkE fuelE cc e x
  | _ + 1, cc, .try_ [.expr e] c i j, .Try [.Expr x _] [.ExceptHandler (some (.Name nx _)) (some nn) [.Assign [.Name ny _] (.Name nm _) _] _] [] [] _ =>
    !cc.md && glob cc.sc nx && decide (cc.cnames[c]? = some nx) && decide (cc.N[i]? = some ny) && isLoc cc ny && decide (cc.N[j]? = some nn) && isLoc cc nn && decide (i ≠ j) && decide (nn ≠ "__debug__") && decide (nn ≠ "__classdict__") && decide (nm = nn) && noComp x && chkE fuelE cc e x
  | _ + 1, cc, .augL i e, .AugAssign (.Name nm p) .Add x _ => chkNm cc i (.Name nm p) && chkE fuelE cc e x
  | _ + 1, cc, .tryS i e c, .Try [.Assign [.Name nm py] x _] [.ExceptHandler (some (.Name nx _)) none (_ :: _) _] [] [] _ => !cc.md && glob cc.sc nx && decide (cc.cnames[c]? = some nx) && chkNm cc i (.Name nm py) && noComp x && chkE fuelE cc e x
  | _ + 1, cc, .tryC i e c d, .Try [.Assign [.Name nm py] x _] [.ExceptHandler (some (.Name nx _)) none [.Assign [.Name nm2 _] (.Constant k _ _) _] _] [] [] _ => !cc.md && glob cc.sc nx && decide (cc.cnames[c]? = some nx) && chkNm cc i (.Name nm py) && noComp x && cstOk d k && decide (nm2 = nm) && chkE fuelE cc e x
  | _ + 1, cc, .tryR i e c c', .Try [.Assign [.Name nm py] x _] [.ExceptHandler (some (.Name nx _)) none [.Raise (some (.Call (.Name ny _) [.Constant (.str _) _ _] [] _)) (some (.Constant .none _ _)) _] _] [] [] _ =>
    !cc.md && glob cc.sc nx && decide (cc.cnames[c]? = some nx) && glob cc.sc ny && decide (cc.cnames[c']? = some ny) && chkNm cc i (.Name nm py) && noComp x && chkE fuelE { cc with md := true, fnames := cc.fnames.take cc.nq } e x
  | _, _, _, _ => false
theorem Good.tr {C : Nat → Addr} {W W' : WX} {n : Nat} {g : G} {cc : CC} {X : Cx} {pn : List (Addr × Obj)} {xe : Value → Shared → Prop} (G : Good C W n g cc X) (tk : Tk cc.md (X.tr pn xe) W') : Good C W' n g cc (X.tr pn xe) :=
  ⟨G.calm, G.room, tk, G.hN, G.nd, G.sc, G.fn, G.ec, G.funs, G.funsN, (fun h => ⟨(G.own h).hs, (G.own h).hf, (G.own h).hex⟩), G.cls, G.con, G.free⟩
theorem take_some {α : Type} {l : List α} {q f : Nat} {x : α} (h : (l.take q)[f]? = some x) : f < q ∧ l[f]? = some x := by
  have hl := (List.getElem?_eq_some_iff.mp h).1
  rw [List.length_take] at hl
  have hq : f < q := by omega
  rw [List.getElem?_take_of_lt hq] at h
  exact ⟨hq, h⟩
/-- .. only what lets out errors without a context is called -/
theorem Good.trN {C : Nat → Addr} {W W' : WX} {n : Nat} {g : G} {cc : CC} {X : Cx} {pn : List (Addr × Obj)} {xe : Value → Shared → Prop} (G : Good C W n g cc X) (tk : Tk true (X.tr pn xe) W') : Good C W' n g { cc with md := true, fnames := cc.fnames.take cc.nq } (X.tr pn xe) :=
  ⟨G.calm, G.room, tk, G.hN, G.nd, G.sc, G.fn, G.ec, fun f x h => G.funsN f x (take_some h).1 (take_some h).2, fun f x _ h => G.funsN f x (take_some h).1 (take_some h).2, (fun h => ⟨(G.own h).hs, (G.own h).hf, (G.own h).hex⟩), G.cls, G.con, G.free⟩
section
variable {X : Cx} {C : Nat → Addr} {W : WX} {n m : Nat} {g : G} {cc : CC}
theorem main_b {f : PS → Stmt → Bool} (hf : ∀ s t, f s t = true → L2.PS X t (tEvS (tOf X C) W g s)) : ∀ (ts : List Stmt) (ss : List PS), chkB f ss ts = true → PSs X ts (tEvB (tOf X C) W g ss)
  | [], ss, h => by
    cases ss with
    | nil => exact b_nil
    | cons s ss => cases h
  | t :: ts, ss, h => by
    unfold chkB at h
    split at h
    · cases ‹_ :: _ = []›
    · obtain ⟨rfl, rfl⟩ := List.cons.inj ‹_ = _ :: _›
      exact b_skip ps_doc (main_b hf ts _ h)
    · obtain ⟨rfl, rfl⟩ := List.cons.inj ‹_ = _ :: _›
      exact b_skip ps_pass (main_b hf ts _ h)
    · obtain ⟨rfl, rfl⟩ := List.cons.inj ‹_ = _ :: _›
      obtain ⟨h1, h2⟩ := Bool.and_eq_true_iff.mp h
      exact b_cons (hf _ _ h1) (main_b hf ts _ h2)
    · cases h
theorem main_s (G : Good C W n g cc X) (O : Own X) (hp : PassesOwn (model X.prog X.w) X.A X.env X.xe) (hpa : ∀ hd : Option Value, PassesOwnAt (model X.prog X.w) (X.A.mark hd) X.A X.env X.xe) : ∀ (m : Nat) (s : PS) (t : Stmt), chkS m cc s t = true → L2.PS X t (tEvS (tOf X C) W g s)
  | 0, _, _, h => by cases h
  | m + 1, s, t, h => by
    have ih := main_s G O hp hpa m
    have ie : Ih C g fuelE n := main_e C g n fuelE
    unfold chkS at h
    split at h
    all_goals try (have q := Nat.succ.inj ‹m + 1 = _ + 1›; subst q)
    · cases h
    · split at h
      · unfold chkLC at h
        split at h
        · simp only [Bool.and_eq_true, decide_eq_true_eq] at h
          obtain ⟨⟨⟨⟨⟨⟨⟨h0, h1⟩, h2⟩, h3⟩, h4⟩, h5⟩, h6⟩, h7⟩ := h
          refine PS.mono (s_setC G h0 (ie.pi G h1) h2 h3 h4 h5 (fun s H A cl fp => ?_) fun s H A cl fp => (ie _ _ _ (G.blk _ s H A cl fp) _ _ h7).pe) fun D σ H h => set_read h
          split at h6
          · exact ifs_nil
          · exact ifs_one (ie _ _ _ (G.blk _ s H A cl fp) _ _ h6).pt
          · cases h6
        · simp only [Bool.and_eq_true, decide_eq_true_eq] at h
          obtain ⟨⟨⟨⟨⟨⟨⟨⟨ht, h0⟩, h1⟩, h2⟩, h3⟩, h4⟩, h5⟩, h6⟩, h7⟩ := h
          refine PS.mono (s_setCX G (G.own ht) h0 (ie.pi G h1) h2 h3 h4 h5 (fun Wb Y GY => ?_) fun Wb Y GY => (ie _ _ _ GY _ _ h7).pe) fun D σ H h => set_read h
          split at h6
          · exact ifs_nil
          · exact ifs_one (ie _ _ _ GY _ _ h6).pt
          · cases h6
        · cases h
      · simp only [Bool.and_eq_true] at h
        obtain ⟨⟨h1, h2⟩, h3⟩ := h
        exact t_set G h1 (ie _ _ _ G _ _ h2).pe h3
    · simp only [Bool.and_eq_true] at h
      obtain ⟨⟨h1, h2⟩, h3⟩ := h
      exact t_setT G h1 (ie _ _ _ G _ _ h2).pe (no_tup (by simpa using h3))
    · simp only [Bool.and_eq_true, decide_eq_true_eq] at h
      obtain ⟨⟨⟨h1, h2⟩, h3⟩, h4⟩ := h
      have pa := ie.pas G h1 h2
      rcases Bool.or_eq_true_iff.mp h4 with h4 | h4
      · unfold parA at h4
        split at h4
        · simp only [Bool.and_eq_true, decide_eq_true_eq, Bool.not_eq_true'] at h4
          obtain ⟨⟨⟨⟨⟨⟨⟨⟨q1, q2⟩, q3⟩, q4⟩, q5⟩, q6⟩, q7⟩, q8⟩, q9⟩ := h4
          exact t_parA G q1 q2 q3 q4 q5 q6 pa h2 q7 q8 q9
        · cases h4
      · obtain ⟨q1, q2⟩ := Bool.and_eq_true_iff.mp h4
        exact t_parB G q1 (s_tup pa h3 (all2_len _ _ h1).symm) q2
    · simp only [Bool.and_eq_true] at h
      obtain ⟨⟨⟨h1, h2⟩, h3⟩, h4⟩ := h
      exact t_setI G (ie _ _ _ G _ _ h1).pe (ie _ _ _ G _ _ h2).pe (ie _ _ _ G _ _ h3).pe h4
    · simp only [Bool.and_eq_true] at h
      exact t_expr (ie _ _ _ G _ _ h.1).pe h.2
    · exact t_ret (ie _ _ _ G _ _ h).pe
    · simp only [Bool.and_eq_true] at h
      obtain ⟨⟨h1, h2⟩, h3⟩ := h
      exact t_if (ie _ _ _ G _ _ h1).pt (main_b ih _ _ h2) (main_b ih _ _ h3)
    · simp only [Bool.and_eq_true] at h
      exact t_while hp (ie _ _ _ G _ _ h.1).pt (main_b ih _ _ h.2)
    · simp only [Bool.and_eq_true] at h
      obtain ⟨⟨⟨h1, h2⟩, h3⟩, h4⟩ := h
      exact t_for G hp (ie.pi G h1) h2 h3 (main_b ih _ _ h4)
    · simp only [Bool.and_eq_true, decide_eq_true_eq] at h
      exact t_raise G h.1 h.2
    · simp only [Bool.and_eq_true, Bool.or_eq_true, decide_eq_true_eq] at h
      obtain ⟨⟨⟨h1, rfl⟩, h3⟩, h4⟩ := h
      exact t_aug G h1 h3 (ie _ _ _ G _ _ h4).pe
    · simp only [Bool.and_eq_true, decide_eq_true_eq] at h
      obtain ⟨⟨⟨⟨⟨⟨⟨⟨⟨⟨⟨⟨hm, h1⟩, h2⟩, h3⟩, h4⟩, h5⟩, h6⟩, h7⟩, h8⟩, h9⟩, rfl⟩, ha⟩, hb⟩ := h
      have hm := (Bool.not_eq_true' _).mp hm
      exact t_try G O hm h1 h2 h3 h4 h5 h6 h7 h8 h9 ha fun W' pn xe tk => (ie _ _ _ (G.tr (by rw [hm]; exact tk)) _ _ hb).pe
    · simp only [Bool.and_eq_true] at h
      exact t_augL G h.1 (ie _ _ _ G _ _ h.2).pe
    · simp only [Bool.and_eq_true, decide_eq_true_eq] at h
      obtain ⟨⟨⟨⟨⟨hm, h1⟩, h2⟩, h3⟩, h4⟩, h5⟩ := h
      have hm := (Bool.not_eq_true' _).mp hm
      exact t_tryS G O hm h1 h2 h3 h4 fun W' pn xe tk => ⟨(ie _ _ _ (G.tr (by rw [hm]; exact tk)) _ _ h5).pe, G.tr (by rw [hm]; exact tk)⟩
    · simp only [Bool.and_eq_true, decide_eq_true_eq] at h
      obtain ⟨⟨⟨⟨⟨⟨⟨hm, h1⟩, h2⟩, h3⟩, h4⟩, h5⟩, rfl⟩, h6⟩ := h
      have hm := (Bool.not_eq_true' _).mp hm
      exact t_tryC G O hm h1 h2 h3 h4 h5 fun W' pn xe tk => (ie _ _ _ (G.tr (by rw [hm]; exact tk)) _ _ h6).pe
    · simp only [Bool.and_eq_true, decide_eq_true_eq] at h
      obtain ⟨⟨⟨⟨⟨⟨⟨hm, h1⟩, h2⟩, h3⟩, h4⟩, h5⟩, h6⟩, h7⟩ := h
      have hm := (Bool.not_eq_true' _).mp hm
      exact t_tryR G O hm hpa h1 h2 h3 h4 h5 h6 fun W' pn xe tk => (ie _ _ _ (G.trN tk) _ _ h7).pe
    · cases h
end
end Ev
end
section
set_option Elab.async false
set_option linter.all false
set_option maxRecDepth 100000
namespace Ev
open PySem PySem.Spec PyProof.Rows L2 PySem.SeqAt
section
variable {T : Pgm} {H : Hp} {μ : List Addr} {S : Sto} {b : Nat}
theorem take_get {n : Nat} {a : Addr} (h : μ[n]? = some a) (hn : n < b) : (μ.take b)[n]? = some a := by
  rw [List.getElem?_take_of_lt hn]; exact h
mutual
theorem pureU : ∀ d : D, d.pure = true → d.under b = true
  | .non, _ => rfl
  | .bl _, _ => rfl
  | .int _, _ => rfl
  | .str _, _ => rfl
  | .tup ds, h => puresU ds h
  | .fz _, h => nomatch h
  | .ref _, h => nomatch h
  | .exc _, h => nomatch h
  | .lst _, h => nomatch h
  | .dct _ _, h => nomatch h
  | .nd _ _, h => nomatch h
theorem puresU : ∀ ds : List D, pures ds = true → unders b ds = true
  | [], _ => rfl
  | d :: ds, h => by
    obtain ⟨s1, s2⟩ := Bool.and_eq_true_iff.mp (show (d.pure && pures ds) = true from h)
    show (d.under b && unders b ds) = true
    rw [pureU d s1, puresU ds s2]; rfl
end
theorem keys_under {ks : List D} (h : ∀ k ∈ ks, tkeyOk k = true) : unders b ks = true := puresU ks (pures_of' fun k m => (tkey (h k m)).1)
mutual
theorem Rep.narrow : ∀ (d : D) (v : V) (fp : List Addr), Rep T H μ d v fp → d.under b = true → Rep T H (μ.take b) d v fp
  | .non, _, _, h, _ => h
  | .bl _, _, _, h, _ => h
  | .int _, _, _, h, _ => h
  | .str _, _, _, h, _ => h
  | .tup ds, _, fp, h, u => by
    obtain ⟨a, vs, e, q, r⟩ := h
    exact ⟨a, vs, e, q, Reps.narrow ds vs fp r (by unfold D.under at u; exact u)⟩
  | .lst ds, _, _, h, u => by
    obtain ⟨a, vs, f, e, q, r, z⟩ := h
    exact ⟨a, vs, f, e, q, Reps.narrow ds vs f r (by unfold D.under at u; exact u), z⟩
  | .fz ds, _, fp, h, u => by
    obtain ⟨a, vs, e, q, r, z⟩ := h
    exact ⟨a, vs, e, q, Reps.narrow ds vs fp r (by unfold D.under at u; exact u), z⟩
  | .dct ks ds, _, _, h, u => by
    obtain ⟨a, us, f, e, q, r, z⟩ := h
    exact ⟨a, us, f, e, q, Reps.narrow ds us f r (by unfold D.under at u; exact (Bool.and_eq_true_iff.mp u).2), z⟩
  | .nd ks ds, _, _, h, u => by
    obtain ⟨a, us, f, e, q, rk, r, z⟩ := h
    exact ⟨a, us, f, e, q, Reps.narrow ks _ _ rk (by unfold D.under at u; exact (Bool.and_eq_true_iff.mp u).1), Reps.narrow ds _ f r (by unfold D.under at u; exact (Bool.and_eq_true_iff.mp u).2), z⟩
  | .ref n, _, _, h, u => by
    obtain ⟨a, e, q, z⟩ := h
    exact ⟨a, e, take_get q (by unfold D.under at u; exact of_decide_eq_true u), z⟩
  | .exc c, _, _, h, _ => by
    obtain ⟨a, e, q, na, z⟩ := h
    exact ⟨a, e, q, ⟨fun m => na.1 (List.mem_of_mem_take m), na.2⟩, z⟩
theorem Reps.narrow : ∀ (ds : List D) (vs : List V) (fp : List Addr), Reps T H μ ds vs fp → unders b ds = true → Reps T H (μ.take b) ds vs fp
  | [], _, _, h, _ => h
  | d :: ds, _, _, h, u => by
    obtain ⟨v, r, f1, f2, e, h1, h2, z⟩ := h
    unfold unders at u
    obtain ⟨u1, u2⟩ := Bool.and_eq_true_iff.mp u
    exact ⟨v, r, f1, f2, e, Rep.narrow d v f1 h1 u1, Reps.narrow ds r f2 h2 u2, z⟩
end
theorem nodup_map_on {α β : Type} {f : α → β} : ∀ {l : List α}, (∀ x ∈ l, ∀ y ∈ l, f x = f y → x = y) → l.Nodup → (l.map f).Nodup
  | [], _, _ => by simp
  | a :: l, h, nd => by
    rw [List.nodup_cons] at nd
    rw [List.map_cons, List.nodup_cons]
    refine ⟨fun m => ?_, nodup_map_on (fun x hx y hy => h x (List.mem_cons_of_mem _ hx) y (List.mem_cons_of_mem _ hy)) nd.2⟩
    obtain ⟨y, hy, e⟩ := List.mem_map.mp m
    have := h a List.mem_cons_self y (List.mem_cons_of_mem _ hy) e.symm
    subst this; exact nd.1 hy
abbrev ad (μ : List Addr) (n : Nat) : Addr := μ.getD n 0
theorem mapM_cons {α β : Type} {f : α → Option β} {x : α} {xs : List α} {ys : List β} (h : (x :: xs).mapM f = some ys) : ∃ y r, f x = some y ∧ xs.mapM f = some r ∧ ys = y :: r := by
  rw [List.mapM_cons] at h
  cases h1 : f x with
  | none => rw [h1] at h; cases h
  | some y =>
    rw [h1] at h
    cases h2 : xs.mapM f with
    | none => rw [h2] at h; cases h
    | some r => rw [h2] at h; cases h; exact ⟨y, r, rfl, rfl, rfl⟩
theorem reifies (S : Sto) (k : Nat) (ih : ∀ d v fp d2, Rep T H μ d v fp → reify S b k d = some d2 → ∃ fp2, Rep T H (μ.take b) d2 v fp2 ∧ fp2.Perm (fp ++ (taken S b k d).map (ad μ)) ∧ ∀ n ∈ taken S b k d, b ≤ n ∧ n < μ.length) :
    ∀ (ds : List D) (vs : List V) (fp : List Addr) (ds2 : List D), Reps T H μ ds vs fp → ds.mapM (reify S b k) = some ds2 → ∃ fp2, Reps T H (μ.take b) ds2 vs fp2 ∧ fp2.Perm (fp ++ (ds.flatMap (taken S b k)).map (ad μ)) ∧ ∀ n ∈ ds.flatMap (taken S b k), b ≤ n ∧ n < μ.length
  | [], vs, fp, ds2, h, e => by
    obtain ⟨rfl, rfl⟩ := h
    have : ds2 = [] := by simpa using e.symm
    subst this
    exact ⟨[], ⟨rfl, rfl⟩, by simp, by simp⟩
  | d :: ds, _, _, ds2, h, e => by
    obtain ⟨v, r, f1, f2, rfl, h1, h2, rfl⟩ := h
    obtain ⟨y, ys, e1, e2, rfl⟩ := mapM_cons e
    obtain ⟨g1, a1, a2, a3⟩ := ih d v f1 y h1 e1
    obtain ⟨g2, b1, b2, b3⟩ := reifies S k ih ds r f2 ys h2 e2
    refine ⟨g1 ++ g2, ⟨v, r, g1, g2, rfl, a1, b1, rfl⟩, ?_, fun n m => ?_⟩
    · rw [List.flatMap_cons, List.map_append]
      refine (a2.append b2).trans ?_
      rw [List.append_assoc, List.append_assoc]
      refine List.Perm.append_left f1 ?_
      rw [← List.append_assoc, ← List.append_assoc]
      exact List.Perm.append_right _ List.perm_append_comm
    · rw [List.flatMap_cons] at m
      exact (List.mem_append.mp m).elim (a3 n) (b3 n)
theorem reify_ok (ok : StOk T H μ S) : ∀ (k : Nat) (d : D) (v : V) (fp : List Addr) (d2 : D), Rep T H μ d v fp → reify S b k d = some d2 → ∃ fp2, Rep T H (μ.take b) d2 v fp2 ∧ fp2.Perm (fp ++ (taken S b k d).map (ad μ)) ∧ ∀ n ∈ taken S b k d, b ≤ n ∧ n < μ.length
  | 0, d, v, fp, d2, h, e => by cases e
  | k + 1, d, v, fp, d2, h, e => by
    have ihs := reifies (H := H) (μ := μ) (T := T) (b := b) S k fun d v fp d2 => reify_ok ok k d v fp d2
    unfold reify at e
    unfold taken
    by_cases hu : d.under b = true
    · rw [if_pos hu] at e
      cases e
      rw [if_pos hu]
      exact ⟨fp, Rep.narrow d v fp h hu, by simp, by simp⟩
    rw [if_neg hu] at e
    rw [if_neg hu]
    cases d with
    | tup ds =>
      obtain ⟨ds2, e1, rfl⟩ := Option.map_eq_some_iff.mp (show (ds.mapM (reify S b k)).map D.tup = some d2 from e)
      obtain ⟨a, vs, ev, q, r⟩ := h
      obtain ⟨fp2, r2, p2, n2⟩ := ihs ds vs fp ds2 r e1
      exact ⟨fp2, ⟨a, vs, ev, q, r2⟩, p2, n2⟩
    | lst ds =>
      obtain ⟨ds2, e1, rfl⟩ := Option.map_eq_some_iff.mp (show (ds.mapM (reify S b k)).map D.lst = some d2 from e)
      obtain ⟨a, vs, f, ev, q, r, rfl⟩ := h
      obtain ⟨fp2, r2, p2, n2⟩ := ihs ds vs f ds2 r e1
      refine ⟨fp2 ++ [a], ⟨a, vs, fp2, ev, q, r2, rfl⟩, ?_, n2⟩
      refine (p2.append_right [a]).trans ?_
      rw [List.append_assoc, List.append_assoc]
      exact List.Perm.append_left f List.perm_append_comm
    | dct ks ds =>
      obtain ⟨ds2, e1, rfl⟩ := Option.map_eq_some_iff.mp (show (ds.mapM (reify S b k)).map (D.dct ks) = some d2 from e)
      obtain ⟨a, us, f, ev, q, r, rfl⟩ := h
      obtain ⟨fp2, r2, p2, n2⟩ := ihs ds us f ds2 r e1
      refine ⟨fp2 ++ [a], ⟨a, us, fp2, ev, q, r2, rfl⟩, ?_, n2⟩
      refine (p2.append_right [a]).trans ?_
      rw [List.append_assoc, List.append_assoc]
      exact List.Perm.append_left f List.perm_append_comm
    | nd ks ds =>
      obtain ⟨ds2, e1, rfl⟩ := Option.map_eq_some_iff.mp (show (ds.mapM (reify S b k)).map (D.nd ks) = some d2 from e)
      obtain ⟨a, us, f, ev, q, rk, r, rfl⟩ := h
      obtain ⟨fp2, r2, p2, n2⟩ := ihs ds _ f ds2 r e1
      refine ⟨fp2 ++ [a], ⟨a, us, fp2, ev, q, Reps.narrow _ _ _ rk (keys_under q.2.2), r2, rfl⟩, ?_, n2⟩
      refine (p2.append_right [a]).trans ?_
      rw [List.append_assoc, List.append_assoc]
      exact List.Perm.append_left f List.perm_append_comm
    | ref n =>
      obtain ⟨a, ev, hm, rfl⟩ := h
      have hn : b ≤ n ∧ n < μ.length := by
        unfold D.under at hu
        have := (List.getElem?_eq_some_iff.mp hm).1
        simp only [decide_eq_true_eq] at hu
        omega
      have ha : ad μ n = a := by
        show μ.getD n 0 = a
        rw [List.getD_eq_getElem?_getD, hm]; rfl
      cases hS : S[n]? with
      | none => simp only [hS] at e; cases e
      | some o =>
        have ob := ok.at_ n o a hS hm
        cases o with
        | lst ds =>
          simp only [hS] at e ⊢
          obtain ⟨ds2, e1, rfl⟩ := Option.map_eq_some_iff.mp e
          obtain ⟨vs, q, r⟩ := ob
          obtain ⟨fp2, r2, p2, n2⟩ := ihs ds vs [] ds2 r e1
          refine ⟨fp2 ++ [a], ⟨a, vs, fp2, ev, q, r2, rfl⟩, ?_, fun m mm => ?_⟩
          · simp only [List.map_append, List.nil_append]
            refine (p2.append_right [a]).trans ?_
            rw [List.nil_append]
            show List.Perm _ (List.map (ad μ) (ds.flatMap (taken S b k)) ++ [ad μ n])
            rw [ha]
          · rcases List.mem_append.mp mm with mm | mm
            · exact n2 m mm
            · have : m = n := by simpa using mm
              subst this; exact hn
        | dct ks ds =>
          simp only [hS] at e ⊢
          obtain ⟨ds2, e1, rfl⟩ := Option.map_eq_some_iff.mp e
          obtain ⟨us, q, r⟩ := ob
          obtain ⟨fp2, r2, p2, n2⟩ := ihs ds us [] ds2 r e1
          refine ⟨fp2 ++ [a], ⟨a, us, fp2, ev, q, r2, rfl⟩, ?_, fun m mm => ?_⟩
          · simp only [List.map_append, List.nil_append]
            refine (p2.append_right [a]).trans ?_
            rw [List.nil_append]
            show List.Perm _ (List.map (ad μ) (ds.flatMap (taken S b k)) ++ [ad μ n])
            rw [ha]
          · rcases List.mem_append.mp mm with mm | mm
            · exact n2 m mm
            · have : m = n := by simpa using mm
              subst this; exact hn
        | nd ks ds =>
          simp only [hS] at e ⊢
          obtain ⟨ds2, e1, rfl⟩ := Option.map_eq_some_iff.mp e
          obtain ⟨us, q, rk, r⟩ := ob
          obtain ⟨fp2, r2, p2, n2⟩ := ihs ds _ [] ds2 r e1
          refine ⟨fp2 ++ [a], ⟨a, us, fp2, ev, q, Reps.narrow _ _ _ rk (keys_under q.2.2), r2, rfl⟩, ?_, fun m mm => ?_⟩
          · simp only [List.map_append, List.nil_append]
            refine (p2.append_right [a]).trans ?_
            rw [List.nil_append]
            show List.Perm _ (List.map (ad μ) (ds.flatMap (taken S b k)) ++ [ad μ n])
            rw [ha]
          · rcases List.mem_append.mp mm with mm | mm
            · exact n2 m mm
            · have : m = n := by simpa using mm
              subst this; exact hn
        | _ => simp only [hS] at e; cases e
    | _ => cases e
theorem unders_get : ∀ (ds : List D) (i : Nat) (d : D), unders b ds = true → ds[i]? = some d → d.under b = true
  | [], i, d, _, h => by simp at h
  | x :: ds, i, d, u, h => by
    unfold unders at u
    obtain ⟨u1, u2⟩ := Bool.and_eq_true_iff.mp u
    cases i with
    | zero => simp at h; subst h; exact u1
    | succ j => exact unders_get ds j d u2 (by simpa using h)
theorem StOk.cut (ok : StOk T H μ S) (hc : closed b S = true) : StOk T H (μ.take b) (S.take b) := by
  refine ⟨by simp [ok.len], ok.nd.sublist (List.take_sublist _ _), fun n d a h1 h2 => ?_⟩
  have hn : n < b := by
    have := (List.getElem?_eq_some_iff.mp h1).1
    rw [List.length_take] at this; omega
  have u := unders_get _ n d hc h1
  rw [List.getElem?_take_of_lt hn] at h1 h2
  have q := ok.at_ n d a h1 h2
  cases d with
  | lst ds => obtain ⟨vs, e, r⟩ := q; exact ⟨vs, e, Reps.narrow _ _ _ r (by unfold D.under at u; exact u)⟩
  | dct ks ds => obtain ⟨us, e, r⟩ := q; exact ⟨us, e, Reps.narrow _ _ _ r (by unfold D.under at u; exact (Bool.and_eq_true_iff.mp u).2)⟩
  | nd ks ds => obtain ⟨us, e, rk, r⟩ := q; exact ⟨us, e, Reps.narrow _ _ _ rk (keys_under e.2.2), Reps.narrow _ _ _ r (by unfold D.under at u; exact (Bool.and_eq_true_iff.mp u).2)⟩
  | _ => exact q.elim
end
section
variable {T : Pgm} {H H' : Hp} {μ μ' fp : List Addr} {S S' : Sto}
theorem StpO.wide (s : Stp H (μ ++ fp) H' μ') : StpO fp H μ H' μ' := by
  obtain ⟨e, he, f⟩ := s.ext
  exact ⟨⟨fp ++ e, by rw [he, List.append_assoc], fun a m => (List.mem_append.mp m).elim .inl fun m => .inr (f a m)⟩, fun b o h n1 n2 => s.fr b o h fun m => (List.mem_append.mp m).elim n1 n2, s.dom⟩
theorem StpO.back (s : Stp H (μ ++ fp) H' μ') : StpO fp H μ H' (μ'.take μ.length) := by
  obtain ⟨e, he, f⟩ := s.ext
  have : μ'.take μ.length = μ := by rw [he, List.append_assoc, List.take_left]
  rw [this]
  exact ⟨⟨[], by simp, by simp⟩, fun b o h n1 n2 => s.fr b o h fun m => (List.mem_append.mp m).elim n1 n2, s.dom⟩
theorem leave_ok {d d2 : D} {v : V} {f : List Addr} {S2 : Sto} (hl : S.length = μ.length) (p : Pst T H (μ ++ fp) d S' v H' μ' f) (e : leave S.length d S' = some (.ok d2 S2)) {Q : VK} (q : OutM T H μ fp S2 d2 Q) : Q v H' := by
  unfold leave at e
  by_cases hc : closed S.length S' = true
  · rw [if_pos hc] at e
    cases hr : reify S' S.length 9 d with
    | none => rw [hr] at e; cases e
    | some dr =>
      simp only [hr] at e
      by_cases hn : (taken S' S.length 9 d).Nodup
      case neg => rw [if_neg hn] at e; cases e
      rw [if_pos hn] at e
      cases e
      obtain ⟨fp2, r2, p2, n2⟩ := reify_ok p.ok 9 d v f d2 p.rep hr
      rw [hl] at r2 n2 hc hn p2 q
      have sb := StpO.back p.stp
      have inj : ∀ n ∈ taken S' μ.length 9 d, ∃ h : n < μ'.length, ad μ' n = μ'[n] := fun n m => ⟨(n2 n m).2, by
        show μ'.getD n 0 = _
        rw [List.getD_eq_getElem?_getD, List.getElem?_eq_getElem (n2 n m).2]; rfl⟩
      have ndt : ((taken S' μ.length 9 d).map (ad μ')).Nodup := by
        refine nodup_map_on ?_ hn
        intro x hx y hy exy
        obtain ⟨lx, ex⟩ := inj x hx
        obtain ⟨ly, ey⟩ := inj y hy
        rw [ex, ey] at exy
        exact (List.getElem_inj p.ok.nd).mp exy
      obtain ⟨m1, m2, m3⟩ := List.nodup_append.mp p.nd
      have ndf : (f ++ (taken S' μ.length 9 d).map (ad μ')).Nodup := by
        refine List.nodup_append.mpr ⟨m2, ndt, fun x hx y hy exy => ?_⟩
        subst exy
        obtain ⟨n, hn', en⟩ := List.mem_map.mp hy
        obtain ⟨ln, e1⟩ := inj n hn'
        exact m3 x (by rw [← en, e1]; exact List.getElem_mem ln) x hx rfl
      refine q v H' _ fp2 sb (p.ok.cut hc) r2 ?_ fun a m => ?_
      · refine List.nodup_append.mpr ⟨p.ok.nd.sublist (List.take_sublist _ _), (p2.nodup_iff).mpr ndf, fun x hx y hy exy => ?_⟩
        subst exy
        rcases List.mem_append.mp (p2.mem_iff.mp hy) with hy | hy
        · exact m3 x (List.mem_of_mem_take hx) x hy rfl
        · obtain ⟨n, hn', en⟩ := List.mem_map.mp hy
          obtain ⟨ln, e1⟩ := inj n hn'
          obtain ⟨i, hi, ei⟩ := List.mem_iff_getElem.mp hx
          rw [List.length_take] at hi
          rw [List.getElem_take] at ei
          have : i = n := (List.getElem_inj p.ok.nd).mp (by rw [ei, ← en, e1])
          have := (n2 n hn').1
          omega
      · rcases List.mem_append.mp (p2.mem_iff.mp m) with m | m
        · exact .inr (p.new a m)
        · obtain ⟨n, hn', en⟩ := List.mem_map.mp m
          obtain ⟨ln, e1⟩ := inj n hn'
          obtain ⟨e, he, fr⟩ := p.stp.ext
          have hge := (n2 n hn').1
          have ha : a = μ'[n] := by rw [← en, e1]
          have hmem : a ∈ μ'.drop μ.length := by
            rw [ha]
            refine List.mem_iff_getElem.mpr ⟨n - μ.length, by rw [List.length_drop]; omega, ?_⟩
            rw [List.getElem_drop]
            congr 1; omega
          rw [he, List.append_assoc, List.drop_left] at hmem
          rcases List.mem_append.mp hmem with m | m
          · exact .inl m
          · exact .inr (fr a m)
  · rw [if_neg hc] at e
    cases e
    exact q v H' μ' f (StpO.wide p.stp) p.ok p.rep p.nd fun a m => .inr (p.new a m)
theorem leaveX_ok {c : Nat} {E : XK} (hl : S.length = μ.length) (s : Stp H (μ ++ fp) H' μ') (ok : StOk T H' μ' S') (q : ∀ H' μ', StpO fp H μ H' μ' → StOk T H' μ' (if closed S.length S' = true then S'.take S.length else S') → E (.ref (T.C c)) none H') : E (.ref (T.C c)) none H' := by
  by_cases hc : closed S.length S' = true
  · rw [if_pos hc] at q
    rw [hl] at q hc
    exact q H' _ (StpO.back s) (ok.cut hc)
  · rw [if_neg hc] at q
    exact q H' μ' (StpO.wide s) ok
end
end Ev
end
section
set_option Elab.async false
set_option linter.all false
set_option maxRecDepth 100000
namespace Ev
open PySem PySem.Spec PyProof.Rows L2 PySem.SeqAt
structure Row where
  fn : Fn
  nm : Str
  N : List Str
  params : Arguments
  body : List Stmt
  scope : Scope
def Row.ps (r : Row) : List Str := r.N.take r.fn.np
structure Txt0 where
  rows : List Row
  cnames : List Str
  consts : List (Str × D)
  nq : Nat
def Txt0.cc (t : Txt0) (m : Bool) (r : Row) : CC := ⟨r.N, if m then (t.rows.map (·.nm)).take t.nq else t.rows.map (·.nm), t.cnames, t.consts, r.scope, m, t.nq, true⟩
def Txt0.fns (t : Txt0) : List Fn := t.rows.map (·.fn)
def chkSc (r : Row) : Bool := (match r.scope.kind with | .function => true | _ => false) && !r.scope.isCoroutine && !r.scope.isGenerator && decide r.N.Nodup && decide (r.fn.np ≤ r.N.length) && decide (r.fn.ns = r.N.length) && r.ps.all (loc r.scope) && r.scope.names.all (fun y => match y.2 with | .free => false | _ => true)
def chkRow (t : Txt0) (m : Bool) (r : Row) : Bool := chkSc r && chkB (chkS 40 (t.cc m r)) r.fn.body r.body
/-- the first nq defs call one another alone, and let out errors without a context -/
def chkTxt (t : Txt0) : Bool := (t.rows.take t.nq).all (chkRow t true) && (t.rows.drop t.nq).all (chkRow t false)
theorem ps_len {r : Row} (h : r.fn.np ≤ r.N.length) : r.ps.length = r.fn.np := by
  unfold Row.ps; rw [List.length_take]; omega
theorem scope_ok {r : Row} (h : chkSc r = true) : FnScope r.N r.ps r.scope ∧ r.fn.np ≤ r.N.length ∧ r.fn.ns = r.N.length := by
  unfold chkSc at h
  simp only [Bool.and_eq_true, decide_eq_true_eq, Bool.not_eq_true', List.all_eq_true] at h
  obtain ⟨⟨⟨⟨⟨⟨⟨h1, h2⟩, h3⟩, h4⟩, h5⟩, h6⟩, h7⟩, h8⟩ := h
  refine ⟨⟨?_, h2, h3, h4, ?_, fun x hx => loc_ok (h7 x hx), fun y hy e => ?_⟩, h5, h6⟩
  · split at h1
    · assumption
    · cases h1
  · rw [ps_len h5]; rfl
  · have := h8 y hy
    rw [e] at this; cases this
/-- what stands behind the top -/
structure Stands (P : Program) (w : World) (K : PySem.W.Frag) (mg : Str → Option Value) (C : Nat → Addr) (isa : Nat → Ty → Bool) (t : Txt0) : Prop where
  ec : ExcK K C isa
  cls : ∀ (c : Nat) (x : Str), t.cnames[c]? = some x → mg x = some (.ref (C c)) ∧ ∀ c', C c' ≠ 0
  con : ∀ (x : Str) (d : D), t.consts.lookup x = some d → ∃ u v, mg x = some u ∧ RelV v u ∧ scalV d v
  free : ∀ x ∈ bltNames, mg x = none
  funs : ∀ (f : Nat) (r : Row), t.rows[f]? = some r → ∃ addr fd, mg r.nm = some (.ref addr) ∧ FunD K r.nm r.nm r.params r.body r.scope [] [] addr fd ∧ Binds K fd r.ps []
theorem env_start {T : Pgm} {H : Hp} {μ : List Addr} {N : List Str} {vs : List V} {ds : List D} {ns : Nat} (hn : ns = N.length) (r : Reps T H μ ds vs []) : EnvOk T H μ (L2.start N vs) (startE ns ds) := by
  have hl := Reps.len _ _ _ r
  refine ⟨by unfold L2.start startE; simp [hl, hn], fun i d e => ?_⟩
  unfold startE at e
  unfold L2.start
  by_cases hi : i < ds.length
  · rw [List.getElem?_append_left (by simpa using hi), List.getElem?_map] at e
    obtain ⟨x, e1, e2⟩ := Option.map_eq_some_iff.mp e
    cases e2
    obtain ⟨v, f, h1, h2, h3⟩ := Reps.get _ _ _ _ _ r e1
    have hf : f = [] := List.sublist_nil.mp h3
    subst hf
    refine ⟨v, ?_, h2⟩
    rw [List.getElem?_append_left (by rw [List.length_map, hl]; exact hi), List.getElem?_map, h1]; rfl
  · rw [List.getElem?_append_right (by simpa using hi)] at e
    rw [List.getElem?_replicate] at e
    split at e
    · cases e
    · cases e
theorem row_ok {P : Program} {w : World} {K : PySem.W.Frag} {mg : Str → Option Value} {base : Heap} {C : Nat → Addr} {isa : Nat → Ty → Bool} {t : Txt0} (St : Stands P w K mg C isa t) {m : Bool} {n f : Nat} {r : Row} (hr : t.rows[f]? = some r) (hc : chkRow t m r = true)
    (hF : ∀ (f : Nat) (x : Str), (t.cc m r).fnames[f]? = some x → ∃ addr fd ps, mg x = some (.ref addr) ∧ PySem.W.keepIn K (.ref addr) = true ∧ Binds K fd ps [] ∧ FnOk P w K mg base (CXm m P w) n addr fd ps (spF ⟨K, w, C⟩ (callN t.fns isa n f)))
    (hNf : ∀ (f : Nat) (x : Str), f < t.nq → (t.cc m r).fnames[f]? = some x → ∃ addr fd ps, mg x = some (.ref addr) ∧ PySem.W.keepIn K (.ref addr) = true ∧ Binds K fd ps [] ∧ FnOk P w K mg base (CXm true P w) n addr fd ps (spF ⟨K, w, C⟩ (callN t.fns isa n f)))
    {addr : Addr} {fd : FuncData} (F : FunD K r.nm r.nm r.params r.body r.scope [] [] addr fd) : FnOk P w K mg base (CXm m P w) (n + 1) addr fd r.ps (spF ⟨K, w, C⟩ (callN t.fns isa (n + 1) f)) := by
  unfold chkRow at hc
  obtain ⟨hc1, hc2⟩ := Bool.and_eq_true_iff.mp hc
  obtain ⟨sc, hnp, hns⟩ := scope_ok hc1
  have hfn : t.fns[f]? = some r.fn := by unfold Txt0.fns; rw [List.getElem?_map, hr]; rfl
  refine F.ok sc (fun vs H Q E ⟨ds, S, μ, fp, rs, ok, nd, h⟩ => ?_) fun cdv A outer s H vs Q E hroom ⟨ds, S, μ, fp, rs, ok, nd, h⟩ => ?_
  · rw [ps_len hnp, Reps.len _ _ _ rs]
    unfold callN at h
    rw [hfn] at h
    by_cases hl : ds.length = r.fn.np
    · exact hl
    · simp only [if_neg hl] at h
  · have G : Good C (fun c d _ H => E c d H) n ⟨callN t.fns isa n, isa⟩ (t.cc m r) (cxOf (CXm m P w) P w K mg base r.N r.nm r.scope addr cdv A outer s H E) := by
      refine ⟨rfl, hroom, ?_, rfl, sc.nd, ScOk.refl _, fun _ _ => .inl rfl, St.ec, hF, hNf, fun _ => ⟨rfl, rfl, rfl⟩, St.cls, St.con, St.free⟩
      show Tk m _ _
      cases m with
      | true => exact L2N.takes_of rfl rfl rfl rfl
      | false => exact takes_of rfl rfl rfl rfl
    have hp := passes_of (X := cxOf (CXm m P w) P w K mg base r.N r.nm r.scope addr cdv A outer s H E) rfl
    have hpa := L2H.passesAt_of (X := cxOf (CXm m P w) P w K mg base r.N r.nm r.scope addr cdv A outer s H E) rfl
    refine ⟨_, main_b (main_s G ⟨rfl, rfl, rfl⟩ hp hpa 40) _ _ hc2, ?_⟩
    unfold callN at h
    rw [hfn] at h
    by_cases hl : ds.length = r.fn.np
    case neg => simp only [if_neg hl] at h
    simp only [if_pos hl] at h
    obtain ⟨r1, ok1⟩ := settles_ok ds vs fp μ S rs ok nd
    refine ⟨startE r.fn.ns (settles ds S).1, (settles ds S).2, μ ++ fp, env_start hns r1, ok1, ?_⟩
    cases hv : execB ⟨callN t.fns isa n, isa⟩ r.fn.body (startE r.fn.ns (settles ds S).1) (settles ds S).2 with
    | none => rw [hv] at h; exact h.elim
    | some q =>
      obtain ⟨fl, S'⟩ := q
      rw [hv] at h
      cases fl with
      | nx ρ' =>
        intro σ' H' μ' s' ok' _
        cases hlv : leave S.length .non S' with
        | none => simp only [hlv] at h
        | some q =>
          simp only [hlv] at h
          cases q with
          | ok d2 S2 => exact leave_ok ok.len (Pst.flat (d := .non) (v := .non) s' ok' ⟨rfl, rfl⟩) hlv h
          | ex c S2 =>
            exfalso
            unfold leave at hlv
            split at hlv
            · split at hlv
              · split at hlv <;> cases hlv
              · cases hlv
            · cases hlv
      | ret d =>
        intro v H' μ' f' p
        cases hlv : leave S.length d S' with
        | none => simp only [hlv] at h
        | some q =>
          simp only [hlv] at h
          cases q with
          | ok d2 S2 => exact leave_ok ok.len p hlv h
          | ex c S2 =>
            exfalso
            unfold leave at hlv
            split at hlv
            · split at hlv
              · split at hlv <;> cases hlv
              · cases hlv
            · cases hlv
      | ex c =>
        intro σ' H' μ' s' ok'
        simp only [leaveX] at h
        exact leaveX_ok (T := ⟨K, w, C⟩) ok.len s' ok' h
theorem row0 {P : Program} {w : World} {K : PySem.W.Frag} {mg : Str → Option Value} {base : Heap} {C : Nat → Addr} {isa : Nat → Ty → Bool} {t : Txt0} {m : Bool} {f : Nat} {ps : List Str} {addr : Addr} {fd : FuncData} : FnOk P w K mg base (CXm m P w) 0 addr fd ps (spF ⟨K, w, C⟩ (callN t.fns isa 0 f)) := by
  have no : ∀ vs H Q E, spF ⟨K, w, C⟩ (callN t.fns isa 0 f) vs H Q E → False := fun vs H Q E ⟨ds, S, μ, fp, _, _, _, h⟩ => h
  exact ⟨fun vs H Q E h => (no vs H Q E h).elim, fun A outer s H args us vs Q E _ _ _ _ h => (no vs H Q E h).elim⟩
theorem cx_zc {P : Program} {w : World} {outer : List PySem.Env} {H : Hp} {s : Shared} {E : XK} {u : Value} {s' : Shared} (h : L2N.CX P w outer H s E u s') : L2.CX P w outer H s E u s' := by
  obtain ⟨a, B, H', cls, d, e, fl, r⟩ := h
  exact ⟨a, B, H', cls, d, e, L2H.flyingZ_imp (fun o z => z.zc) fl, r⟩
theorem fn_zc {P : Program} {w : World} {K : PySem.W.Frag} {mg : Str → Option Value} {base : Heap} {k : Nat} {f : Addr} {fd : FuncData} {ps : List Str} {sp : Sp} (F : FnOk P w K mg base (CXm true P w) k f fd ps sp) : FnOk P w K mg base (L2.CX P w) k f fd ps sp := by
  refine ⟨F.len, fun A outer s H args us vs Q E hr e0 hb hv hs => codeAny_mono (F.run A outer s H args us vs Q E hr e0 hb hv hs) fun r s' h => ?_⟩
  cases r with
  | ok v => cases v <;> exact h
  | error e => exact cx_zc h
section
variable {P : Program} {w : World} {K : PySem.W.Frag} {mg : Str → Option Value} {base : Heap} {C : Nat → Addr} {isa : Nat → Ty → Bool} {t : Txt0}
theorem row_name {x : Str} {f : Nat} (h : (t.rows.map (·.nm))[f]? = some x) : ∃ r, t.rows[f]? = some r ∧ r.nm = x := by
  rw [List.getElem?_map] at h
  exact Option.map_eq_some_iff.mp h
theorem fnsN_ok (St : Stands P w K mg C isa t) (hchk : chkTxt t = true) : ∀ (n f : Nat) (r : Row), f < t.nq → t.rows[f]? = some r → ∀ addr fd, FunD K r.nm r.nm r.params r.body r.scope [] [] addr fd → FnOk P w K mg base (CXm true P w) n addr fd r.ps (spF ⟨K, w, C⟩ (callN t.fns isa n f))
  | 0, f, r, hf, hr, addr, fd, F => row0
  | n + 1, f, r, hf, hr, addr, fd, F => by
    have hc : chkRow t true r = true := List.all_eq_true.mp (Bool.and_eq_true_iff.mp hchk).1 r (List.mem_of_getElem? (i := f) (by rw [List.getElem?_take_of_lt hf]; exact hr))
    have go : ∀ (f : Nat) (x : Str), (t.cc true r).fnames[f]? = some x → ∃ addr fd ps, mg x = some (.ref addr) ∧ PySem.W.keepIn K (.ref addr) = true ∧ Binds K fd ps [] ∧ FnOk P w K mg base (CXm true P w) n addr fd ps (spF ⟨K, w, C⟩ (callN t.fns isa n f)) := fun f' x hx => by
      obtain ⟨q1, q2⟩ := take_some (show ((t.rows.map (·.nm)).take t.nq)[f']? = some x from hx)
      obtain ⟨r', e1, rfl⟩ := row_name q2
      obtain ⟨addr', fd', z1, z2, z3⟩ := St.funs f' r' e1
      exact ⟨addr', fd', r'.ps, z1, z2.kp, z3, fnsN_ok St hchk n f' r' q1 e1 addr' fd' z2⟩
    exact row_ok St hr hc go (fun f x _ h => go f x h) F
theorem fns_ok (St : Stands P w K mg C isa t) (hchk : chkTxt t = true) : ∀ (n f : Nat) (r : Row), t.rows[f]? = some r → ∀ addr fd, FunD K r.nm r.nm r.params r.body r.scope [] [] addr fd → FnOk P w K mg base (L2.CX P w) n addr fd r.ps (spF ⟨K, w, C⟩ (callN t.fns isa n f))
  | 0, f, r, hr, addr, fd, F => row0 (m := false)
  | n + 1, f, r, hr, addr, fd, F => by
    by_cases hf : f < t.nq
    · exact fn_zc (fnsN_ok St hchk (n + 1) f r hf hr addr fd F)
    have hc : chkRow t false r = true := List.all_eq_true.mp (Bool.and_eq_true_iff.mp hchk).2 r (List.mem_of_getElem? (i := f - t.nq) (by rw [List.getElem?_drop, show t.nq + (f - t.nq) = f from by omega]; exact hr))
    refine row_ok (m := false) St hr hc (fun f' x hx => ?_) (fun f' x q1 hx => ?_) F
    · obtain ⟨r', e1, rfl⟩ := row_name (show (t.rows.map (·.nm))[f']? = some x from hx)
      obtain ⟨addr', fd', z1, z2, z3⟩ := St.funs f' r' e1
      exact ⟨addr', fd', r'.ps, z1, z2.kp, z3, fns_ok St hchk n f' r' e1 addr' fd' z2⟩
    · obtain ⟨r', e1, rfl⟩ := row_name (show (t.rows.map (·.nm))[f']? = some x from hx)
      obtain ⟨addr', fd', z1, z2, z3⟩ := St.funs f' r' e1
      exact ⟨addr', fd', r'.ps, z1, z2.kp, z3, fnsN_ok St hchk n f' r' q1 e1 addr' fd' z2⟩
end
/-- the law's def is handed the script -/
theorem law_sp {K : PySem.W.Frag} {w : World} {C : Nat → Addr} {fns : List Fn} {isa : Nat → Ty → Bool} {n f : Nat} {H : Hp} {a : Addr} {ns : List Int} (hO : Only H) (hS : SqL K H a (ns.map V.int))
    (h : ∃ S', callN fns isa n f [.fz (ns.map .int)] [] = some (.ok (.bl true) S')) : spF ⟨K, w, C⟩ (callN fns isa n f) [.ref a] H (fun v _ => v = .bl true) fun _ _ _ => False := by
  obtain ⟨S', h⟩ := h
  have rs : ∀ ns : List Int, Reps ⟨K, w, C⟩ H [] (ns.map .int) (ns.map V.int) [] := fun ns => by
    induction ns with
    | nil => exact ⟨rfl, rfl⟩
    | cons i ns ih => exact ⟨.int i, ns.map V.int, [], [], rfl, ⟨rfl, rfl⟩, ih, rfl⟩
  have fz : FzAt K H a (ns.map V.int) := by
    rcases hS with (h | h) | h
    · rcases hO a with e | ⟨_, _, e⟩ <;> (rw [h] at e; cases e)
    · exact .inl h
    · exact .inr h
  refine ⟨[.fz (ns.map .int)], [], [], [], ⟨.ref a, [], [], [], rfl, ⟨a, _, rfl, fz, rs ns, rfl⟩, ⟨rfl, rfl⟩, rfl⟩, ⟨rfl, List.nodup_nil, fun n d a h => by simp at h⟩, List.nodup_nil, ?_⟩
  rw [h]
  exact fun v H' μ' fp _ _ r _ _ => r.1
/-- where nothing is let out -/
theorem fn_noX {P : Program} {w : World} {K : PySem.W.Frag} {mg : Str → Option Value} {base : Heap} {k : Nat} {f : Addr} {fd : FuncData} {ps : List Str} {sp : Sp} (F : FnOk P w K mg base (L2.CX P w) k f fd ps sp) :
    FnOk P w K mg base CX0 k f fd ps (fun vs H Q _ => sp vs H Q fun _ _ _ => False) := by
  refine ⟨fun vs H Q E h => F.len _ _ _ _ h, fun A outer s H args us vs Q E hr e0 hb hv hs => codeAny_mono (F.run A outer s H args us vs Q _ hr e0 hb hv hs) fun r s' h => ?_⟩
  cases r with
  | ok v =>
    cases v <;> exact h
  | error e =>
    obtain ⟨_, _, _, _, _, _, _, _, _, _, _, _, z⟩ := h
    exact z.elim
end Ev
end
section
set_option Elab.async false
set_option linter.all false
set_option maxRecDepth 100000
namespace Ev
open PySem PySem.Spec PyProof.Rows L2
/-! ### the exception classes behind the top: the first is the base of all others -/
def cAd (K : PySem.W.Frag) (cn : List Str) (c : Nat) : Addr := He.ga K (cn.getD (cIx cn.length c) "")
def excOne (K : PySem.W.Frag) (D : Addr) : Bool := He.eqO (PySem.W.findIn K (.ref D) "__getattribute__") (some (some (.builtin "BaseException.__getattribute__"))) && He.eqO (PySem.W.findIn K (.ref D) "__getattr__") (some none) &&
  decide (PySem.W.subIn K (.ref D) (.type "BaseException") = some true) && PySem.W.hasDictIn K D && He.eqO (PySem.W.findIn K (.ref D) "__class__") (some (some (.builtin "object.__class__"))) &&
  He.eqO (PySem.W.specialIn K (.builtin "object.__class__") "__get__") (some (some (.builtin "getset_descriptor.__get__"))) && decide (PySem.W.takesIn K (.builtin "object.__class__") = some true) && decide (PySem.W.mroIn K D (.type "object") = some true) &&
  PySem.W.excIn K D [.type "ValueError", .type "Exception", .type "BaseException", .type "object"] "ValueError.__new__" && PySem.W.keepIn K (.ref D) && decide (PySem.W.typeIn K (.ref D) = some (.type "type")) &&
  decide (D ≠ 0) && decide (PySem.W.kitOne K (.ref D) (.type "ValueError") = some true)
def excB (K : PySem.W.Frag) (cn : List Str) : Bool := (List.range cn.length).all fun c => excOne K (cAd K cn c) && (List.range cn.length).all fun c' =>
  decide (PySem.W.kitOne K (.ref (cAd K cn c)) (.ref (cAd K cn c')) = some (isaX cn.length c (.cls c'))) && decide (PySem.W.exmOne K (.ref (cAd K cn c)) (.ref (cAd K cn c')) = some (isaX cn.length c (.cls c')))
theorem cIx_lt {k : Nat} (h : 0 < k) (c : Nat) : cIx k c < k := by unfold cIx; split <;> omega
theorem cIx_id {k c : Nat} : cIx k (cIx k c) = cIx k c := by unfold cIx; split <;> simp_all
theorem cAd_ix {K : PySem.W.Frag} {cn : List Str} {c : Nat} : cAd K cn (cIx cn.length c) = cAd K cn c := by unfold cAd; rw [cIx_id]
theorem isa_ix {k c c' : Nat} : isaX k (cIx k c) (.cls (cIx k c')) = isaX k c (.cls c') := by unfold isaX; simp only [cIx_id]
theorem excK_of {K : PySem.W.Frag} {cn : List Str} (hl : 0 < cn.length) (h : excB K cn = true) : ExcK K (cAd K cn) (isaX cn.length) ∧ ∀ c, cAd K cn c ≠ 0 := by
  have one : ∀ c, excOne K (cAd K cn c) = true := fun c => by
    have := List.all_eq_true.mp h (cIx cn.length c) (List.mem_range.mpr (cIx_lt hl c))
    have := (Bool.and_eq_true_iff.mp this).1
    rwa [cAd_ix] at this
  have two : ∀ c c', PySem.W.kitOne K (.ref (cAd K cn c)) (.ref (cAd K cn c')) = some (isaX cn.length c (.cls c')) ∧ PySem.W.exmOne K (.ref (cAd K cn c)) (.ref (cAd K cn c')) = some (isaX cn.length c (.cls c')) := fun c c' => by
    have h1 := List.all_eq_true.mp h (cIx cn.length c) (List.mem_range.mpr (cIx_lt hl c))
    have h2 := List.all_eq_true.mp (Bool.and_eq_true_iff.mp h1).2 (cIx cn.length c') (List.mem_range.mpr (cIx_lt hl c'))
    simp only [Bool.and_eq_true, decide_eq_true_eq, cAd_ix, isa_ix] at h2
    exact h2
  have all : ∀ c, _ := fun c => one c
  simp only [excOne, Bool.and_eq_true, decide_eq_true_eq] at all
  refine ⟨⟨fun c _ => ?_, fun c c' _ => (two c c').1, fun c _ => (all c).2, fun c _ => ?_, fun c c' _ => (two c c').2⟩, fun c => (all c).1.2⟩
  · obtain ⟨⟨⟨⟨⟨⟨⟨⟨⟨⟨⟨⟨a1, a2⟩, a3⟩, a4⟩, a5⟩, a6⟩, a7⟩, a8⟩, a9⟩, a10⟩, a11⟩, a12⟩, a13⟩ := all c
    exact ⟨He.eqO_ok a1, He.eqO_ok a2, a3, a4, He.eqO_ok a5, He.eqO_ok a6, a7, a8⟩
  · obtain ⟨⟨⟨⟨⟨⟨⟨⟨⟨⟨⟨⟨a1, a2⟩, a3⟩, a4⟩, a5⟩, a6⟩, a7⟩, a8⟩, a9⟩, a10⟩, a11⟩, a12⟩, a13⟩ := all c
    exact ⟨a9, a10, a3, a11⟩
/-- the library's look at the top, with the classes -/
def hookX (n : Nat) (fa : List He.Fa) (fn : List He.DefD) (cn : List Str) : PySem.W.Hook where
  α := He.AlD × Bool
  obs := fun s => (He.obsDG n fa fn s.heap.get?, excB (He.frG s.heap.get? (He.asD s.heap.get? n)) cn)
  val := fun _ => (He.valD fn, true)
  says := fun _ h => ∃ K : PySem.W.Frag, K.In h ∧ He.SaysD fa fn K ∧ excB K cn = true
  of := fun _ _ e => ⟨_, He.frG_in, (Prod.mk.inj e).1, (Prod.mk.inj e).2⟩
  keeps := fun _ _ _ ⟨K, hK, c⟩ k => ⟨K, PySem.W.Frag.In.keeps hK k, c⟩
def obsX (n : Nat) (fa : List He.Fa) (fn : List He.DefD) (cn : List Str) (g : Addr → Option Obj) : He.AlD × Bool := (He.obsDG n fa fn g, excB (He.frG g (He.asD g n)) cn)
theorem obsX_eq {n : Nat} {fa : List He.Fa} {fn : List He.DefD} {cn : List Str} {g : Addr → Option Obj} {s : Shared} (h : ∀ a, g a = s.heap.get? a) : obsX n fa fn cn g = (hookX n fa fn cn).obs s := by
  have e : g = s.heap.get? := funext h
  rw [e] <;> rfl
end Ev
end
section
set_option Elab.async false
set_option linter.all false
set_option maxRecDepth 100000
namespace Pg
open PySem Ev
def b_is_int : List PS := [.ife (.or (.is_ false (.var 0) (.bl true)) (.or (.is_ false (.var 0) (.bl false)) (.not (.isi (.var 0) [.int])))) [.ret (.cst (.bl false))] [],
  .ret (.cmp2 .le .le (.var 1) (.var 0) (.var 2))]
def n_is_int : List Str := ["thing", "least", "most"]
def b_is_name : List PS := [.ife (.or (.not (.isi (.var 0) [.str])) (.not (.cmp2 .le .le (.cst (.int 1)) (.blt .len [(.var 0)]) (.cst (.int 8))))) [.ret (.cst (.bl false))] [],
  .for_ (.nm 1) .val [(.var 0)] [.ife (.cmp .notin (.var 1) (.cst (.str "abcdefghijklmnopqrstuvwxyz"))) [.ret (.cst (.bl false))] []],
  .ret (.cst (.bl true))]
def n_is_name : List Str := ["thing", "sign"]
def b_is_tagged : List PS := [.ret (.and (.isi (.var 0) [.tuple]) (.and (.cmp .eq (.blt .len [(.var 0)]) (.var 2)) (.and (.isi (.idx (.var 0) (.cst (.int 0))) [.str]) (.cmp .eq (.idx (.var 0) (.cst (.int 0))) (.var 1)))))]
def n_is_tagged : List Str := ["thing", "tag", "long"]
def b_is_place : List PS := [.ife (.call 2 [(.var 0), (.cst (.str "table")), (.cst (.int 2))]) [.ret (.call 0 [(.idx (.var 0) (.cst (.int 1))), (.cst (.int 2)), (.cst (.int 5))])] [],
  .ret (.call 2 [(.var 0), (.cst (.str "fraction")), (.cst (.int 1))])]
def n_is_place : List Str := ["thing"]
def b_is_range : List PS := [.ife (.or (.not (.call 2 [(.var 0), (.cst (.str "range")), (.cst (.int 3))])) (.not (.call 0 [(.idx (.var 0) (.cst (.int 1))), (.bin .sub (.cst (.int 0)) (.cst (.int 50))), (.cst (.int 50))]))) [.ret (.cst (.bl false))] [],
  .ret (.call 0 [(.idx (.var 0) (.cst (.int 2))), (.idx (.var 0) (.cst (.int 1))), (.blt .min2 [(.cst (.int 50)), (.bin .add (.idx (.var 0) (.cst (.int 1))) (.cst (.int 16)))])])]
def n_is_range : List Str := ["thing"]
def b_are_places : List PS := [.ife (.or (.not (.isi (.var 0) [.tuple])) (.cmp .notin (.blt .len [(.var 0)]) (.tup [(.cst (.int 1)), (.cst (.int 2))]))) [.ret (.cst (.bl false))] [],
  .for_ (.nm 1) .val [(.var 0)] [.ife (.not (.call 3 [(.var 1)])) [.ret (.cst (.bl false))] []],
  .ret (.cst (.bl true))]
def n_are_places : List Str := ["thing", "kind"]
def b_is_declaration : List PS := [.ife (.call 2 [(.var 0), (.cst (.str "unknown")), (.cst (.int 3))]) [.set 1 (.or (.call 3 [(.idx (.var 0) (.cst (.int 2)))]) (.or (.call 4 [(.idx (.var 0) (.cst (.int 2)))]) (.call 2 [(.idx (.var 0) (.cst (.int 2))), (.cst (.str "truth")), (.cst (.int 1))])))] [.ife (.call 2 [(.var 0), (.cst (.str "function")), (.cst (.int 4))]) [.set 1 (.and (.call 5 [(.idx (.var 0) (.cst (.int 2)))]) (.or (.call 3 [(.idx (.var 0) (.cst (.int 3)))]) (.call 4 [(.idx (.var 0) (.cst (.int 3)))])))] [.set 1 (.and (.call 2 [(.var 0), (.cst (.str "row")), (.cst (.int 4))]) (.and (.call 3 [(.idx (.var 0) (.cst (.int 2)))]) (.call 3 [(.idx (.var 0) (.cst (.int 3)))])))]],
  .ret (.and (.var 1) (.call 1 [(.idx (.var 0) (.cst (.int 1)))]))]
def n_is_declaration : List Str := ["thing", "known"]
def b_made_world : List PS := [.ife (.or (.not (.isi (.var 0) [.list, .tuple])) (.cmp .gt (.blt .len [(.var 0)]) (.cst (.int 24)))) [.raise 1] [],
  .set 1 (.dct0),
  .for_ (.nm 2) .val [(.var 0)] [.ife (.or (.not (.call 6 [(.var 2)])) (.cmp .in_ (.idx (.var 2) (.cst (.int 1))) (.var 1))) [.raise 1] [], .setI (.var 1) (.idx (.var 2) (.cst (.int 1))) (.cst (.bl true))],
  .ret (.blt .tuple [(.var 0)])]
def n_made_world : List Str := ["declarations", "names", "declaration"]
def b_show_kind : List PS := [.ret (.mth .join (.cst (.str ":")) [(.comp (.nm 1) .val [(.var 0)] [] (.blt .str [(.var 1)]))])]
def n_show_kind : List Str := ["kind", "part"]
def b_show_declaration : List PS := [.set 1 (.blt .list [(.sl (.var 0) (.cst .non) (.cst (.int 2)))]),
  .ife (.cmp .eq (.idx (.var 0) (.cst (.int 0))) (.cst (.str "function"))) [.augL 1 (.comp (.nm 2) .val [(.idx (.var 0) (.cst (.int 2)))] [] (.call 8 [(.var 2)])), .expr (.mth .append (.var 1) [(.call 8 [(.idx (.var 0) (.cst (.int 3)))])])] [.augL 1 (.comp (.nm 2) .val [(.sl (.var 0) (.cst (.int 2)) (.cst .non))] [] (.call 8 [(.var 2)]))],
  .ret (.mth .join (.cst (.str " ")) [(.var 1)])]
def n_show_declaration : List Str := ["declaration", "words", "kind"]
def b_show_world : List PS := [.ret (.mth .join (.cst (.str "; ")) [(.comp (.nm 1) .val [(.var 0)] [] (.call 9 [(.var 1)]))])]
def n_show_world : List Str := ["world", "declaration"]
def b_int_in : List PS := [.set 1 (.var 0),
  .ife (.mth .startswith (.var 0) [(.cst (.str "-"))]) [.set 1 (.sl (.var 0) (.cst (.int 1)) (.cst .non))] [],
  .ife (.or (.cmp .lt (.blt .len [(.var 1)]) (.cst (.int 1))) (.cmp .gt (.blt .len [(.var 1)]) (.cst (.int 8)))) [.raise 4] [],
  .for_ (.nm 2) .val [(.var 1)] [.ife (.cmp .notin (.var 2) (.cst (.str "0123456789"))) [.raise 4] []],
  .ret (.blt .int [(.var 0)])]
def n_int_in : List Str := ["word", "figures", "sign"]
def b_kind_in : List PS := [.set 1 (.mth .split (.var 0) [(.cst (.str ":"))]),
  .ret (.blt .tuple [(.bin .add (.sl (.var 1) (.cst .non) (.cst (.int 1))) (.compX (.nm 2) .val [(.sl (.var 1) (.cst (.int 1)) (.cst .non))] [] (.call 11 [(.var 2)])))])]
def n_kind_in : List Str := ["word", "parts", "part"]
def b_declaration_in : List PS := [.set 1 (.mth .split (.var 0) [(.cst (.str " "))]),
  .set 2 (.compX (.nm 3) .val [(.sl (.var 1) (.cst (.int 2)) (.cst .non))] [] (.call 12 [(.var 3)])),
  .ife (.cmp .ne (.idx (.var 1) (.cst (.int 0))) (.cst (.str "function"))) [.ret (.blt .tuple [(.bin .add (.sl (.var 1) (.cst .non) (.cst (.int 2))) (.var 2))])] [],
  .ife (.cmp .lt (.blt .len [(.var 2)]) (.cst (.int 2))) [.raise 4] [],
  .ret (.tup [(.cst (.str "function")), (.idx (.var 1) (.cst (.int 1))), (.blt .tuple [(.sl (.var 2) (.cst .non) (.neg (.cst (.int 1))))]), (.idx (.var 2) (.neg (.cst (.int 1))))])]
def n_declaration_in : List Str := ["text", "words", "kinds", "word"]
def b_read_world : List PS := [.ife (.not (.isi (.var 0) [.str])) [.raise 4] [],
  .set 1 (.lst []),
  .ife (.cmp .ne (.var 0) (.cst (.str ""))) [.set 1 (.mth .split (.var 0) [(.cst (.str "; "))])] [],
  .tryR 2 (.call 7 [(.compX (.nm 3) .val [(.var 1)] [] (.call 13 [(.var 3)]))]) 1 4,
  .ife (.cmp .ne (.call 10 [(.var 2)]) (.var 0)) [.raise 4] [],
  .ret (.var 2)]
def n_read_world : List Str := ["text", "parts", "world", "part"]
def b__law_cell_at : List PS := [.ife (.cmp .lt (.var 1) (.blt .len [(.var 0)])) [.ret (.idx (.var 0) (.var 1))] [],
  .ret (.cst (.int 0))]
def n__law_cell_at : List Str := ["_law_script", "_law_k"]
def b__law_stream : List PS := [.set 2 (.lst []),
  .set 3 (.blt .abs [(.var 0)]),
  .for_ (.nm 4) .rng1 [(.var 1)] [.expr (.mth .append (.var 2) [(.bin .mod (.var 3) (.cst (.int 1000003)))]), .set 3 (.bin .fdiv (.var 3) (.cst (.int 1000003)))],
  .ife (.cmp .gt (.var 3) (.cst (.int 0))) [.ret (.var 2)] [],
  .set 5 (.lst []),
  .set 6 (.bin .add (.bin .mod (.var 0) (.cst (.int 2147483647))) (.cst (.int 48271))),
  .set 7 (.bin .add (.bin .mod (.var 0) (.cst (.int 2147483629))) (.cst (.int 16807))),
  .for_ (.nm 4) .rng1 [(.var 1)] [.set 6 (.bin .mod (.bin .mul (.var 6) (.cst (.int 48271))) (.cst (.int 2147483647))), .set 7 (.bin .mod (.bin .add (.bin .mul (.var 7) (.cst (.int 69621))) (.var 4)) (.cst (.int 2147483629))), .expr (.mth .append (.var 5) [(.bin .fdiv (.bin .add (.var 6) (.var 7)) (.cst (.int 7)))])],
  .ret (.var 5)]
def n__law_stream : List Str := ["_law_cell", "_law_many", "_law_digits", "_law_left", "_law_k", "_law_found", "_law_number", "_law_other"]
def b__law_take : List PS := [.ife (.cmp .eq (.blt .len [(.var 0)]) (.cst (.int 0))) [.ret (.cst (.int 0))] [],
  .ret (.mth .pop (.var 0) [])]
def n__law_take : List Str := ["_law_xs"]
def b__law_name : List PS := [.set 2 (.cst (.str "abcdefghijklmnopqrstuvwxyz")),
  .set 3 (.lst [(.cst (.str "is")), (.cst (.str "all")), (.cst (.str "plus")), (.cst (.str "of")), (.cst (.str "truth")), (.cst (.str "table")), (.cst (.str "unknown")), (.cst (.str "row")), (.cst (.str "world")), (.cst (.str "not")), (.cst (.str "read")), (.cst (.str "write"))]),
  .ife (.cmp .eq (.bin .mod (.var 1) (.cst (.int 5))) (.cst (.int 0))) [.ret (.bin .add (.idx (.var 3) (.bin .mod (.bin .fdiv (.var 1) (.cst (.int 5))) (.cst (.int 12)))) (.bin .mul (.idx (.var 2) (.var 0)) (.blt .int [(.cmp .eq (.bin .mod (.bin .fdiv (.var 1) (.cst (.int 60))) (.cst (.int 2))) (.cst (.int 0)))])))] [],
  .ret (.bin .add (.bin .add (.idx (.var 2) (.var 0)) (.bin .mul (.idx (.var 2) (.bin .mod (.bin .fdiv (.var 1) (.cst (.int 5))) (.cst (.int 26)))) (.bin .mod (.bin .fdiv (.var 1) (.cst (.int 130))) (.cst (.int 7))))) (.idx (.var 2) (.var 0)))]
def n__law_name : List Str := ["_law_k", "_law_number", "_law_letters", "_law_some"]
def b__law_any_kind : List PS := [.set 2 (.bin .sub (.bin .mod (.bin .fdiv (.var 0) (.cst (.int 4))) (.cst (.int 101))) (.cst (.int 50))),
  .set 3 (.tup [(.cst (.str "range")), (.var 2), (.blt .min2 [(.cst (.int 50)), (.bin .add (.var 2) (.bin .mod (.bin .fdiv (.var 0) (.cst (.int 404))) (.cst (.int 17))))])]),
  .ret (.idx (.lst [(.tup [(.cst (.str "fraction"))]), (.tup [(.cst (.str "table")), (.bin .add (.cst (.int 2)) (.bin .mod (.bin .fdiv (.var 0) (.cst (.int 4))) (.cst (.int 4))))]), (.var 3), (.tup [(.cst (.str "truth"))])]) (.bin .mod (.var 0) (.var 1)))]
def n__law_any_kind : List Str := ["_law_number", "_law_most", "_law_low", "_law_span"]
def b__law_any_row : List PS := [.set 2 (.bin .mod (.call 17 [(.var 1)]) (.cst (.int 5))),
  .ife (.cmp .lt (.var 2) (.cst (.int 3))) [.ret (.tup [(.cst (.str "unknown")), (.var 0), (.call 19 [(.call 17 [(.var 1)]), (.cst (.int 4))])])] [],
  .set 3 (.blt .tuple [(.comp (.nm 4) .rng1 [(.bin .add (.cst (.int 1)) (.bin .mod (.call 17 [(.var 1)]) (.cst (.int 2))))] [] (.call 19 [(.call 17 [(.var 1)]), (.cst (.int 2))]))]),
  .ife (.cmp .eq (.var 2) (.cst (.int 3))) [.ret (.tup [(.cst (.str "function")), (.var 0), (.var 3), (.call 19 [(.call 17 [(.var 1)]), (.cst (.int 3))])])] [],
  .ret (.tup [(.cst (.str "row")), (.var 0), (.idx (.var 3) (.cst (.int 0))), (.call 19 [(.call 17 [(.var 1)]), (.cst (.int 2))])])]
def n__law_any_row : List Str := ["_law_name_here", "_law_xs", "_law_way", "_law_places", "_law_k"]
def b__law_any_world : List PS := [.set 1 (.lst []),
  .set 2 (.lst []),
  .for_ (.nm 3) .rng1 [(.blt .min2 [(.cst (.int 24)), (.blt .max2 [(.cst (.int 0)), (.bin .sub (.blt .len [(.var 0)]) (.cst (.int 1)))])])] [.set 4 (.call 16 [(.idx (.var 0) (.bin .add (.var 3) (.cst (.int 1)))), (.cst (.int 8))]), .set 5 (.call 18 [(.var 3), (.call 17 [(.var 4)])]), .ife (.cmp .notin (.var 5) (.var 2)) [.expr (.mth .append (.var 2) [(.var 5)]), .expr (.mth .append (.var 1) [(.call 20 [(.var 5), (.var 4)])])] []],
  .ret (.blt .tuple [(.var 1)])]
def n__law_any_world : List Str := ["_law_script", "_law_rows", "_law_names", "_law_k", "_law_xs", "_law_name_here"]
def b__law_kind_text : List PS := [.ret (.mth .join (.cst (.str ":")) [(.comp (.nm 1) .val [(.var 0)] [] (.blt .str [(.var 1)]))])]
def n__law_kind_text : List Str := ["_law_kind", "_law_part"]
def b__law_row_text : List PS := [.set 1 (.lst [(.idx (.var 0) (.cst (.int 0))), (.idx (.var 0) (.cst (.int 1)))]),
  .for_ (.nm 2) .val [(.sl (.var 0) (.cst (.int 2)) (.cst .non))] [.ife (.isi (.idx (.var 2) (.cst (.int 0))) [.tuple]) [.set 1 (.bin .add (.var 1) (.comp (.nm 3) .val [(.var 2)] [] (.call 22 [(.var 3)])))] [.expr (.mth .append (.var 1) [(.call 22 [(.var 2)])])]],
  .ret (.mth .join (.cst (.str " ")) [(.var 1)])]
def n__law_row_text : List Str := ["_law_row", "_law_words", "_law_part", "_law_kind"]
def b__law_world_text : List PS := [.ret (.mth .join (.cst (.str "; ")) [(.comp (.nm 1) .val [(.var 0)] [] (.call 23 [(.var 1)]))])]
def n__law_world_text : List Str := ["_law_world", "_law_row"]
def b__law_refused : List PS := [.set 1 (.cst (.non)),
  .try_ [.expr (.call 14 [(.var 0)])] 0 1 2,
  .ife (.or (.is_ false (.var 1) (.non)) (.or (.not (.isi (.var 1) [.cls 4])) (.not (.isi (.var 1) [.valueError])))) [.ret (.cst (.bl false))] [],
  .ret (.and (.not (.isi (.var 1) [.cls 1])) (.and (.not (.isi (.var 1) [.cls 2])) (.not (.isi (.var 1) [.cls 3]))))]
def n__law_refused : List Str := ["_law_thing", "_law_caught", "error"]
def b__law_told : List PS := [.set 1 (.cst (.non)),
  .tryC 1 (.call 14 [(.var 0)]) 4 (.non),
  .ife (.is_ false (.var 1) (.non)) [.ret (.call 25 [(.var 0)])] [],
  .ret (.and (.isi (.var 1) [.tuple]) (.and (.cmp .eq (.call 24 [(.var 1)]) (.var 0)) (.cmp .eq (.call 7 [(.var 1)]) (.var 1))))]
def n__law_told : List Str := ["_law_text", "_law_found"]
def b__law_spoiled : List PS := [.set 2 (.bin .mod (.call 17 [(.var 1)]) (.bin .add (.blt .len [(.var 0)]) (.cst (.int 1)))),
  .set 3 (.cst (.str " :;-_, 0123456789!#$&'()*+./<=>?@ABCDEFGHIJKLMNOPQRSTUVWXYZ[]^`abcdefghijklmnopqrstuvwxyz{|}~\n")),
  .set 4 (.idx (.var 3) (.bin .mod (.call 17 [(.var 1)]) (.blt .len [(.var 3)]))),
  .set 5 (.bin .mod (.call 17 [(.var 1)]) (.cst (.int 6))),
  .set 6 (.bin .add (.cst (.int 1)) (.bin .mod (.call 17 [(.var 1)]) (.cst (.int 9)))),
  .ife (.cmp .lt (.var 5) (.cst (.int 2))) [.ret (.bin .add (.bin .add (.sl (.var 0) (.cst .non) (.var 2)) (.var 4)) (.sl (.var 0) (.var 2) (.cst .non)))] [],
  .ife (.cmp .eq (.var 5) (.cst (.int 2))) [.ret (.bin .add (.bin .add (.sl (.var 0) (.cst .non) (.var 2)) (.var 4)) (.sl (.var 0) (.bin .add (.var 2) (.cst (.int 1))) (.cst .non)))] [],
  .ife (.cmp .eq (.var 5) (.cst (.int 3))) [.set 7 (.sl (.var 0) (.var 2) (.bin .add (.var 2) (.cst (.int 2)))), .ret (.bin .add (.bin .add (.bin .add (.sl (.var 0) (.cst .non) (.var 2)) (.sl (.var 7) (.cst (.int 1)) (.cst .non))) (.sl (.var 7) (.cst .non) (.cst (.int 1)))) (.sl (.var 0) (.bin .add (.var 2) (.cst (.int 2))) (.cst .non)))] [],
  .ife (.cmp .eq (.var 5) (.cst (.int 4))) [.ret (.bin .add (.sl (.var 0) (.cst .non) (.bin .add (.var 2) (.var 6))) (.sl (.var 0) (.var 2) (.cst .non)))] [],
  .ret (.bin .add (.sl (.var 0) (.cst .non) (.var 2)) (.sl (.var 0) (.bin .add (.var 2) (.var 6)) (.cst .non)))]
def n__law_spoiled : List Str := ["_law_text", "_law_xs", "_law_at", "_law_signs", "_law_sign", "_law_way", "_law_far", "_law_two"]
def b__law_none : List PS := [.set 1 (.lst [(.cst (.str "unknown p")), (.cst (.str "unknown p truth ")), (.cst (.str " unknown p truth")), (.cst (.str "unknown  p truth"))]),
  .set 1 (.bin .add (.var 1) (.lst [(.cst (.str "unknown p truth;")), (.cst (.str ";")), (.cst (.str "; ")), (.cst (.str "unknown p truth;unknown q truth"))])),
  .set 1 (.bin .add (.var 1) (.lst [(.cst (.str "unknown p truth;  unknown q truth")), (.cst (.str "unknown p truth; unknown p truth"))])),
  .set 1 (.bin .add (.var 1) (.lst [(.cst (.str "unknown P truth")), (.cst (.str "unknown abcdefghi truth")), (.cst (.str "unknown p1 truth"))])),
  .set 1 (.bin .add (.var 1) (.lst [(.cst (.str "unknown  truth")), (.cst (.str "Unknown p truth")), (.cst (.str "unknown p truth:1")), (.cst (.str "unknown p range"))])),
  .set 1 (.bin .add (.var 1) (.lst [(.cst (.str "unknown p range:1")), (.cst (.str "unknown p range:3:2")), (.cst (.str "unknown p range:0:17"))])),
  .set 1 (.bin .add (.var 1) (.lst [(.cst (.str "unknown p range:0:+3")), (.cst (.str "unknown p range:00:3")), (.cst (.str "unknown p range:-0:3"))])),
  .set 1 (.bin .add (.var 1) (.lst [(.cst (.str "unknown p range:-51:-50")), (.cst (.str "unknown p range:40:51")), (.cst (.str "unknown p table:1"))])),
  .set 1 (.bin .add (.var 1) (.lst [(.cst (.str "unknown p table:6")), (.cst (.str "unknown p table:03")), (.cst (.str "unknown p table"))])),
  .set 1 (.bin .add (.var 1) (.lst [(.cst (.str "unknown p fraction fraction")), (.cst (.str "function f fraction"))])),
  .set 1 (.bin .add (.var 1) (.lst [(.cst (.str "function f truth fraction")), (.cst (.str "row a fraction"))])),
  .set 1 (.bin .add (.var 1) (.lst [(.cst (.str "function f fraction fraction fraction fraction"))])),
  .set 1 (.bin .add (.var 1) (.lst [(.cst (.str "function f range:0:1 fraction")), (.cst (.str "row a fraction truth"))])),
  .set 1 (.bin .add (.var 1) (.lst [(.cst (.str "row a range:0:1 fraction")), (.cst (.str "row a fraction fraction fraction"))])),
  .set 1 (.bin .add (.var 1) (.lst [(.cst (.str "table p truth")), (.cst (.str "unknown p whole")), (.cst (.str "0")), (.cst (.str "unknown p (fraction)"))])),
  .set 1 (.bin .add (.var 1) (.lst [(.cst (.str "function f  fraction")), (.cst (.str "unknown p truth unknown q truth"))])),
  .set 1 (.bin .add (.var 1) (.lst [(.cst (.str "unknown p range:0:1_0")), (.bin .add (.bin .add (.cst (.str "unknown p range:")) (.bin .mul (.cst (.str "9")) (.cst (.int 5000)))) (.cst (.str ":3")))])),
  .set 1 (.bin .add (.var 1) (.lst [(.bin .add (.bin .add (.cst (.str "unknown p table:")) (.bin .mul (.cst (.str "0")) (.cst (.int 4999)))) (.cst (.str "3"))), (.bin .add (.bin .add (.cst (.str "unknown p range:-")) (.bin .mul (.cst (.str "5")) (.cst (.int 4400)))) (.cst (.str ":3")))])),
  .expr (.mth .append (.var 1) [(.mth .join (.cst (.str "; ")) [(.comp (.nm 2) .rng1 [(.cst (.int 25))] [] (.bin .add (.bin .add (.cst (.str "unknown ")) (.idx (.cst (.str "abcdefghijklmnopqrstuvwxy")) (.var 2))) (.cst (.str " truth"))))])]),
  .set 1 (.bin .add (.var 1) (.lst [(.cst (.str "unknown p truth\n")), (.bin .add (.bin .add (.cst (.str "function f table:")) (.bin .mul (.cst (.str "2")) (.cst (.int 4400)))) (.cst (.str " truth")))])),
  .ret (.idx (.var 1) (.bin .mod (.var 0) (.blt .len [(.var 1)])))]
def n__law_none : List Str := ["_law_number", "_law_some", "_law_k"]
def b_law : List PS := [.set 1 (.call 21 [(.sl (.var 0) (.cst .non) (.cst (.int 7)))]),
  .set 2 (.call 24 [(.var 1)]),
  .for_ (.nm 3) .rng1 [(.blt .max2 [(.cst (.int 4)), (.blt .min2 [(.cst (.int 20)), (.blt .len [(.var 0)])])])] [.set 5 (.call 16 [(.bin .add (.call 15 [(.var 0), (.var 3)]) (.bin .mul (.cst (.int 7)) (.var 3))), (.cst (.int 5))]), .ife (.or (.not (.call 25 [(.call 28 [(.call 17 [(.var 5)])])])) (.not (.call 26 [(.call 27 [(.var 2), (.var 5)])]))) [.ret (.cst (.bl false))] []],
  .for_ (.nm 4) .val [(.lst [(.cst (.non)), (.cst (.int 7)), (.cst (.bl true)), (.lst []), (.lst [(.cst (.str "unknown p truth"))]), (.tup []), (.tup [(.tup [(.cst (.str "unknown")), (.cst (.str "p")), (.tup [(.cst (.str "truth"))])])]), (.dct0)])] [.ife (.not (.call 25 [(.var 4)])) [.ret (.cst (.bl false))] []],
  .ret (.cmp .eq (.call 14 [(.var 2)]) (.var 1))]
def n_law : List Str := ["_law_script", "_law_world", "_law_text", "_law_k", "_law_thing", "_law_xs"]
def fns : List Fn := [⟨3, 3, b_is_int⟩, ⟨1, 2, b_is_name⟩, ⟨3, 3, b_is_tagged⟩, ⟨1, 1, b_is_place⟩, ⟨1, 1, b_is_range⟩, ⟨1, 2, b_are_places⟩, ⟨1, 2, b_is_declaration⟩, ⟨1, 3, b_made_world⟩, ⟨1, 2, b_show_kind⟩, ⟨1, 3, b_show_declaration⟩, ⟨1, 2, b_show_world⟩, ⟨1, 3, b_int_in⟩, ⟨1, 3, b_kind_in⟩, ⟨1, 4, b_declaration_in⟩, ⟨1, 4, b_read_world⟩, ⟨2, 2, b__law_cell_at⟩, ⟨2, 8, b__law_stream⟩, ⟨1, 1, b__law_take⟩, ⟨2, 4, b__law_name⟩, ⟨2, 4, b__law_any_kind⟩, ⟨2, 5, b__law_any_row⟩, ⟨1, 6, b__law_any_world⟩, ⟨1, 2, b__law_kind_text⟩, ⟨1, 4, b__law_row_text⟩, ⟨1, 2, b__law_world_text⟩, ⟨1, 3, b__law_refused⟩, ⟨1, 2, b__law_told⟩, ⟨2, 8, b__law_spoiled⟩, ⟨1, 3, b__law_none⟩, ⟨1, 6, b_law⟩]
end Pg
end
section
set_option Elab.async false
set_option linter.all false
set_option maxRecDepth 100000
namespace Ev
open PySem
/-! ### plain data -/
mutual
theorem pure_under (b : Nat) : ∀ d : D, d.pure = true → d.under b = true
  | .non, _ => rfl
  | .bl _, _ => rfl
  | .int _, _ => rfl
  | .str _, _ => rfl
  | .tup ds, h => by unfold D.pure at h; unfold D.under; exact pures_under b ds h
  | .lst _, h => by cases h
  | .dct _ _, h => by cases h
  | .nd _ _, h => by cases h
  | .fz _, h => by cases h
  | .ref _, h => by cases h
  | .exc _, h => by cases h
theorem pures_under (b : Nat) : ∀ ds : List D, pures ds = true → unders b ds = true
  | [], _ => rfl
  | d :: ds, h => by
    unfold pures at h
    obtain ⟨h1, h2⟩ := Bool.and_eq_true_iff.mp h
    unfold unders
    rw [pure_under b d h1, pures_under b ds h2]; rfl
end
mutual
theorem settle_pure : ∀ (d : D) (S : Sto), d.pure = true → settle d S = (d, S)
  | .non, _, _ => rfl
  | .bl _, _, _ => rfl
  | .int _, _, _ => rfl
  | .str _, _, _ => rfl
  | .tup ds, S, h => by
    unfold D.pure at h
    unfold settle
    rw [settles_pure ds S h]
  | .lst _, _, h => by cases h
  | .dct _ _, _, h => by cases h
  | .nd _ _, _, h => by cases h
  | .fz _, _, h => by cases h
  | .ref _, _, h => by cases h
  | .exc _, _, h => by cases h
theorem settles_pure : ∀ (ds : List D) (S : Sto), pures ds = true → settles ds S = (ds, S)
  | [], _, _ => rfl
  | d :: ds, S, h => by
    unfold pures at h
    obtain ⟨h1, h2⟩ := Bool.and_eq_true_iff.mp h
    unfold settles
    rw [settle_pure d S h1]
    simp only
    rw [settles_pure ds S h2]
end
theorem pures_all : ∀ ds : List D, pures ds = ds.all D.pure
  | [] => rfl
  | d :: ds => by unfold pures; rw [List.all_cons, pures_all ds]
theorem unders_all (b : Nat) : ∀ ds : List D, unders b ds = ds.all (D.under b)
  | [] => rfl
  | d :: ds => by unfold unders; rw [List.all_cons, unders_all b ds]
/-- every object of the store names objects of the store -/
def Cl (S : Sto) : Prop := unders S.length S = true
theorem Cl.nil : Cl [] := rfl
theorem closed_of {S l : Sto} (h : Cl S) : closed S.length (S ++ l) = true := by
  unfold closed
  rw [List.take_left]; exact h
mutual
theorem under_mono {a b : Nat} (hab : a ≤ b) : ∀ d : D, d.under a = true → d.under b = true
  | .non, _ => rfl
  | .bl _, _ => rfl
  | .int _, _ => rfl
  | .str _, _ => rfl
  | .exc _, _ => rfl
  | .tup ds, h => by unfold D.under at h ⊢; exact unders_mono hab ds h
  | .lst ds, h => by unfold D.under at h ⊢; exact unders_mono hab ds h
  | .fz ds, h => by unfold D.under at h ⊢; exact unders_mono hab ds h
  | .dct ks vs, h => by
    unfold D.under at h ⊢
    obtain ⟨h1, h2⟩ := Bool.and_eq_true_iff.mp h
    rw [unders_mono hab ks h1, unders_mono hab vs h2]; rfl
  | .nd ks vs, h => by
    unfold D.under at h ⊢
    obtain ⟨h1, h2⟩ := Bool.and_eq_true_iff.mp h
    rw [unders_mono hab ks h1, unders_mono hab vs h2]; rfl
  | .ref n, h => by
    unfold D.under at h ⊢
    have := of_decide_eq_true h
    exact decide_eq_true (by omega)
theorem unders_mono {a b : Nat} (hab : a ≤ b) : ∀ ds : List D, unders a ds = true → unders b ds = true
  | [], _ => rfl
  | d :: ds, h => by
    unfold unders at h ⊢
    obtain ⟨h1, h2⟩ := Bool.and_eq_true_iff.mp h
    rw [under_mono hab d h1, unders_mono hab ds h2]; rfl
end
theorem Cl.app {S l : Sto} (h : Cl S) (hl : unders (S.length + l.length) l = true) : Cl (S ++ l) := by
  unfold Cl at h ⊢
  rw [List.length_append, unders_all, List.all_append, ← unders_all, ← unders_all, unders_mono (by omega) S h, hl]; rfl
theorem Cl.set {S : Sto} {i : Nat} {d : D} (h : Cl S) (hd : d.under S.length = true) : Cl (S.set i d) := by
  unfold Cl at h ⊢
  rw [List.length_set, unders_all, List.all_eq_true]
  rw [unders_all, List.all_eq_true] at h
  intro x hx
  rcases List.mem_or_eq_of_mem_set hx with m | m
  · exact h x m
  · rw [m]; exact hd
/-! ### calls -/
def finish (b : Nat) : Option (Fl × Sto) → Option (R D)
  | some (.nx _, S') => leave b .non S'
  | some (.ret d, S') => leave b d S'
  | some (.ex c, S') => leaveX b c S'
  | none => none
theorem call_eq {fns : List Fn} {isa : Nat → Ty → Bool} {n f : Nat} {ds : List D} {S : Sto} {np ns : Nat} {body : List PS} (hf : fns[f]? = some ⟨np, ns, body⟩) (hl : ds.length = np) :
    callN fns isa (n + 1) f ds S = finish S.length (execB ⟨callN fns isa n, isa⟩ body (startE ns (settles ds S).1) (settles ds S).2) := by
  conv => lhs; unfold callN
  rw [hf]
  simp only [hl, if_true]
  cases execB ⟨callN fns isa n, isa⟩ body (startE ns (settles ds S).1) (settles ds S).2 with
  | none => rfl
  | some q => obtain ⟨fl, S'⟩ := q; cases fl <;> rfl
theorem leave_pure {S l : Sto} {d : D} (hc : Cl S) (h : d.pure = true) : leave S.length d (S ++ l) = some (.ok d S) := by
  unfold leave
  rw [if_pos (closed_of hc)]
  unfold reify taken
  rw [pure_under _ d h]
  simp
theorem leave_pure0 {S : Sto} {d : D} (hc : Cl S) (h : d.pure = true) : leave S.length d S = some (.ok d S) := by
  have := leave_pure (l := []) hc h
  simpa using this
theorem mapM_pure {S : Sto} {b k : Nat} : ∀ ds : List D, pures ds = true → ds.mapM (reify S b (k + 1)) = some ds
  | [], _ => rfl
  | d :: ds, h => by
    unfold pures at h
    obtain ⟨h1, h2⟩ := Bool.and_eq_true_iff.mp h
    rw [List.mapM_cons, mapM_pure ds h2]
    unfold reify
    rw [pure_under b d h1]
    rfl
theorem taken_pure {S : Sto} {b k : Nat} : ∀ ds : List D, pures ds = true → ds.flatMap (taken S b (k + 1)) = []
  | [], _ => rfl
  | d :: ds, h => by
    unfold pures at h
    obtain ⟨h1, h2⟩ := Bool.and_eq_true_iff.mp h
    rw [List.flatMap_cons, taken_pure ds h2]
    unfold taken
    rw [pure_under b d h1]
    rfl
/-- a list of plain data is handed back -/
theorem leave_lst {S l : Sto} {k : Nat} {ds : List D} (hc : Cl S) (hk : l[k]? = some (.lst ds)) (h : pures ds = true) : leave S.length (.ref (S.length + k)) (S ++ l) = some (.ok (.lst ds) S) := by
  unfold leave
  rw [if_pos (closed_of hc)]
  have hu : (D.ref (S.length + k)).under S.length = false := by unfold D.under; exact decide_eq_false (by omega)
  have hg : (S ++ l)[S.length + k]? = some (.lst ds) := by
    rw [List.getElem?_append_right (by omega)]
    simpa using hk
  unfold reify taken
  simp only [hu, hg, mapM_pure ds h, taken_pure ds h]
  simp
/-- an own list that the def hands back at once -/
theorem leave_own {S l : Sto} {ds : List D} (hc : Cl S) (h : pures ds = true) : leave S.length (.lst ds) (S ++ l) = some (.ok (.lst ds) S) := by
  unfold leave
  rw [if_pos (closed_of hc)]
  have hu : (D.lst ds).under S.length = true := by unfold D.under; exact pures_under _ ds h
  unfold reify taken
  simp only [hu]
  simp
/-! ### the store as a base and what is laid behind it -/
theorem get_app {S l : Sto} {k : Nat} : (S ++ l)[S.length + k]? = l[k]? := by
  rw [List.getElem?_append_right (by omega)]; simp
theorem get_app0 {S l : Sto} : (S ++ l)[S.length]? = l[0]? := by
  rw [List.getElem?_append_right (by omega)]; simp
theorem set_app {S l : Sto} {k : Nat} {d : D} : (S ++ l).set (S.length + k) d = S ++ l.set k d := by
  rw [List.set_append_right _ _ (by omega)]; simp
theorem set_app0 {S l : Sto} {d : D} : (S ++ l).set S.length d = S ++ l.set 0 d := by
  rw [List.set_append_right _ _ (by omega)]; simp
theorem guard_none {α : Type} {S : Sto} {x : Option α} : guardS none S x = x := by
  unfold guardS
  exact if_pos trivial
theorem guard_some {α : Type} {S : Sto} {x : Option α} {n : Nat} {ds : List D} (h : S[n]? = some (.lst ds)) : guardS (some (n, ds)) S x = x := by
  unfold guardS
  exact if_pos h
end Ev
end
section
set_option Elab.async false
set_option linter.all false
set_option maxRecDepth 100000
namespace Ev
open PySem
section
variable {S l : Sto} {g : G} {ρ : Env}
@[simp] theorem leave_int0 {i : Int} (h : Cl S) : leave S.length (.int i) S = some (.ok (.int i) S) := leave_pure0 h rfl
@[simp] theorem leave_int {i : Int} (h : Cl S) : leave S.length (.int i) (S ++ l) = some (.ok (.int i) S) := leave_pure h rfl
@[simp] theorem leave_bl0 {i : Bool} (h : Cl S) : leave S.length (.bl i) S = some (.ok (.bl i) S) := leave_pure0 h rfl
@[simp] theorem leave_bl {i : Bool} (h : Cl S) : leave S.length (.bl i) (S ++ l) = some (.ok (.bl i) S) := leave_pure h rfl
@[simp] theorem leave_str0 {i : Str} (h : Cl S) : leave S.length (.str i) S = some (.ok (.str i) S) := leave_pure0 h rfl
@[simp] theorem leave_str {i : Str} (h : Cl S) : leave S.length (.str i) (S ++ l) = some (.ok (.str i) S) := leave_pure h rfl
@[simp] theorem leave_non0 (h : Cl S) : leave S.length .non S = some (.ok .non S) := leave_pure0 h rfl
@[simp] theorem leave_non (h : Cl S) : leave S.length .non (S ++ l) = some (.ok .non S) := leave_pure h rfl
@[simp] theorem leave_tup0 {ds : List D} (h : Cl S) (hp : pures ds = true) : leave S.length (.tup ds) S = some (.ok (.tup ds) S) := leave_pure0 h (by unfold D.pure; exact hp)
@[simp] theorem leave_tup {ds : List D} (h : Cl S) (hp : pures ds = true) : leave S.length (.tup ds) (S ++ l) = some (.ok (.tup ds) S) := leave_pure h (by unfold D.pure; exact hp)
/-! truth -/
@[simp] theorem truth_non : truth S .non = some false := rfl
@[simp] theorem truth_bl {b : Bool} : truth S (.bl b) = some b := rfl
@[simp] theorem truth_int {i : Int} : truth S (.int i) = some (i != 0) := rfl
@[simp] theorem truth_tup {ds : List D} : truth S (.tup ds) = some (!ds.isEmpty) := rfl
@[simp] theorem truth_lst {ds : List D} : truth S (.lst ds) = some (!ds.isEmpty) := rfl
@[simp] theorem truth_fz {ds : List D} : truth S (.fz ds) = some (!ds.isEmpty) := rfl
/-! the shape of sequences -/
@[simp] theorem listOf_lst {ds : List D} : Ev.listOf S (.lst ds) = some ds := rfl
@[simp] theorem listOf_fz {ds : List D} : Ev.listOf S (.fz ds) = some ds := rfl
@[simp] theorem listOf_tup {ds : List D} : Ev.listOf S (.tup ds) = none := rfl
@[simp] theorem listOf_int {i : Int} : Ev.listOf S (.int i) = none := rfl
@[simp] theorem listOf_str {i : Str} : Ev.listOf S (.str i) = none := rfl
@[simp] theorem listOf_dct {a b : List D} : Ev.listOf S (.dct a b) = none := rfl
theorem listOf_ref {n : Nat} {ds : List D} (h : S[n]? = some (.lst ds)) : Ev.listOf S (.ref n) = some ds := by show (match S[n]? with | some (.lst ds) => some ds | _ => none) = _; rw [h]
theorem listOf_refd {n : Nat} {a b : List D} (h : S[n]? = some (.dct a b)) : Ev.listOf S (.ref n) = none := by show (match S[n]? with | some (.lst ds) => some ds | _ => none) = _; rw [h]
@[simp] theorem seqOf_tup {ds : List D} : Ev.seqOf S (.tup ds) = some ds := rfl
@[simp] theorem seqOf_lst {ds : List D} : Ev.seqOf S (.lst ds) = some ds := rfl
@[simp] theorem seqOf_fz {ds : List D} : Ev.seqOf S (.fz ds) = some ds := rfl
@[simp] theorem seqOf_ref {n : Nat} : Ev.seqOf S (.ref n) = Ev.listOf S (.ref n) := rfl
@[simp] theorem seqOf_dct {a b : List D} : Ev.seqOf S (.dct a b) = none := rfl
@[simp] theorem dictOf_dct {a b : List D} : Ev.dictOf S (.dct a b) = some (a, b) := rfl
theorem dictOf_ref {n : Nat} {a b : List D} (h : S[n]? = some (.dct a b)) : Ev.dictOf S (.ref n) = some (a, b) := by show (match S[n]? with | some (.dct ks vs) => some (ks, vs) | _ => none) = _; rw [h]
@[simp] theorem mutOf_lst {ds : List D} : Ev.mutOf S (.lst ds) = some ds := rfl
theorem mutOf_ref {n : Nat} {ds : List D} (h : S[n]? = some (.lst ds)) : Ev.mutOf S (.ref n) = some ds := by show (match S[n]? with | some (.lst ds) => some ds | _ => none) = _; rw [h]
/-! arithmetic -/
@[simp] theorem bin_add {i j : Int} : binE S .add (.int i) (.int j) = some (.int (i + j)) := rfl
@[simp] theorem bin_sub {i j : Int} : binE S .sub (.int i) (.int j) = some (.int (i - j)) := rfl
theorem bin_mul {i j : Int} (h : mulOk i j = true) : binE S .mul (.int i) (.int j) = some (.int (i * j)) := by show (if mulOk i j then _ else _) = _; rw [if_pos h]
theorem bin_fdiv {i j : Int} (h : divOk j = true) : binE S .fdiv (.int i) (.int j) = some (.int (i.fdiv j)) := by show (if divOk j then _ else _) = _; rw [if_pos h]
theorem bin_mod {i j : Int} (h : j ≠ 0) : binE S .mod (.int i) (.int j) = some (.int (i.fmod j)) := by show (if decide (j ≠ 0) then _ else _) = _; rw [if_pos (decide_eq_true h)]
/-! comparisons -/
@[simp] theorem cmp_lt {i j : Int} : cmpE S .lt (.int i) (.int j) = some (decide (i < j)) := rfl
@[simp] theorem cmp_gt {i j : Int} : cmpE S .gt (.int i) (.int j) = some (decide (j < i)) := rfl
@[simp] theorem cmp_le {i j : Int} : cmpE S .le (.int i) (.int j) = some (decide (i ≤ j)) := rfl
@[simp] theorem cmp_ge {i j : Int} : cmpE S .ge (.int i) (.int j) = some (decide (j ≤ i)) := rfl
@[simp] theorem cmp_eq {a b : D} : cmpE S .eq a b = orD (eqE S a b) S a b := by cases a <;> rfl
@[simp] theorem cmp_ne {a b : D} : cmpE S .ne a b = (eqE S a b).map (!·) := by cases a <;> rfl
theorem cmp_in {a b : D} : cmpE S .in_ a b = inE S a b := by cases a <;> rfl
theorem cmp_nin {a b : D} : cmpE S .notin a b = (inE S a b).map (!·) := by cases a <;> rfl
theorem res_pure {d : D} {k : Nat} (h : d.pure = true) : res S (k + 1) d = some d := by unfold res; rw [if_pos h]
theorem eq_pure {a b : D} (ha : a.pure = true) (hb : b.pure = true) (hd : min a.depth b.depth ≤ 150) : eqE S a b = some (a.eqv b) := by
  unfold eqE
  rw [res_pure ha, res_pure hb]
  exact if_pos hd
@[simp] theorem eq_int {i j : Int} : eqE S (.int i) (.int j) = some (decide (i = j)) := eq_pure rfl rfl (by simp [D.depth])
@[simp] theorem eq_str {i j : Str} : eqE S (.str i) (.str j) = some (decide (i = j)) := eq_pure rfl rfl (by simp [D.depth])
/-! built-ins -/
@[simp] theorem len_seq {a : D} {ds : List D} (h : Ev.seqOf S a = some ds) : bltE S .len [a] = some (.int ds.length) := by
  cases a <;> first | (cases h; done) | (cases h; rfl) | (show (match Ev.seqOf S (.ref _) with | some ds => some (D.int ds.length) | none => _) = _; rw [h]) | skip
@[simp] theorem abs_int {i : Int} : bltE S .abs [.int i] = some (.int (if i < 0 then -i else i)) := rfl
@[simp] theorem tuple_seq {a : D} : bltE S .tuple [a] = (Ev.seqOf S a).map .tup := rfl
@[simp] theorem list_seq {a : D} : bltE S .list [a] = (Ev.seqOf S a).map .lst := rfl
@[simp] theorem int_bl {b : Bool} : bltE S .int [.bl b] = some (.int (if b then 1 else 0)) := rfl
theorem sum_list {a : D} {ds : List D} {ns : List Int} (h : Ev.listOf S a = some ds) (hn : intsOf ds = some ns) : bltE S .sum [a] = some (.int ns.sum) := by
  show (match (Ev.listOf S a).bind intsOf with | some ns => some (D.int ns.sum) | none => none) = _
  rw [h, Option.bind_some, hn]
@[simp] theorem intsOf_map : ∀ ns : List Int, intsOf (ns.map .int) = some ns
  | [] => rfl
  | i :: ns => by rw [List.map_cons]; show (intsOf (ns.map .int)).map (i :: ·) = _; rw [intsOf_map ns]; rfl
/-! places -/
theorem idx_tup {ds : List D} {i : Int} : idxE S (.tup ds) (.int i) = atI ds i := rfl
theorem idx_list {a : D} {ds : List D} {i : Int} (h : Ev.listOf S a = some ds) : idxE S a (.int i) = atI ds i := by
  cases a <;> first | (cases h; done) | (cases h; rfl) | (show (match Ev.listOf S (.ref _) with | some ds => _ | none => _) = _; rw [h])
/-! kinds -/
@[simp] theorem isTys_one {isa : Nat → Ty → Bool} {d : D} {t : Ty} {b : Bool} (h : isTy isa S t d = some b) : isTys isa S d [t] = some b := by
  unfold isTys
  rw [h]
  cases b <;> rfl
section
variable {isa : Nat → Ty → Bool}
@[simp] theorem isi_int_int {i : Int} : isTys isa S (.int i) [.int] = some true := rfl
@[simp] theorem isi_int_bool {i : Int} : isTys isa S (.int i) [.bool] = some false := rfl
@[simp] theorem isi_int_tuple {i : Int} : isTys isa S (.int i) [.tuple] = some false := rfl
@[simp] theorem isi_int_str {i : Int} : isTys isa S (.int i) [.str] = some false := rfl
@[simp] theorem isi_str_str {i : Str} : isTys isa S (.str i) [.str] = some true := rfl
@[simp] theorem isi_str_tuple {i : Str} : isTys isa S (.str i) [.tuple] = some false := rfl
@[simp] theorem isi_tup_tuple {i : List D} : isTys isa S (.tup i) [.tuple] = some true := rfl
@[simp] theorem isi_tup_str {i : List D} : isTys isa S (.tup i) [.str] = some false := rfl
@[simp] theorem isi_lst_list {i : List D} : isTys isa S (.lst i) [.list] = some true := rfl
theorem isi_ref_list {n : Nat} {i : List D} (h : S[n]? = some (.lst i)) : isTys isa S (.ref n) [.list] = some true := by
  refine isTys_one ?_
  show (match (match S[n]? with | some (.lst _) => some VT.lst | some (.dct _ _) => some VT.dct | _ => none) with | some v => isVT .list v | none => none) = _
  rw [h]; rfl
end
theorem forL_rel {f : D → Env → Sto → Option (Fl × Sto)} : ∀ (its : List D) (P : Nat → Env → Sto → Prop), (∀ k d ρ S, its[k]? = some d → P k ρ S → ∃ ρ' S', f d ρ S = some (.nx ρ', S') ∧ P (k + 1) ρ' S') → ∀ ρ S, P 0 ρ S → ∃ ρ' S', forL none f its ρ S = some (.nx ρ', S') ∧ P its.length ρ' S'
  | [], P, h, ρ, S, p => ⟨ρ, S, by unfold forL; exact guard_none, p⟩
  | d :: its, P, h, ρ, S, p => by
    obtain ⟨ρ1, S1, e1, p1⟩ := h 0 d ρ S rfl p
    obtain ⟨ρ2, S2, e2, p2⟩ := forL_rel its (fun k => P (k + 1)) (fun k d ρ S hk => h (k + 1) d ρ S (by simpa using hk)) ρ1 S1 p1
    refine ⟨ρ2, S2, ?_, p2⟩
    unfold forL
    rw [guard_none, e1, seqS_nx, e2]
theorem mul_small {i j : Int} (hi : i.natAbs < 2 ^ 100) (hj : j.natAbs < 2 ^ 100) : mulOk i j = true := by
  have q : ∀ n : Nat, n < 2 ^ 100 → n.log2 < 100 := fun n h => by
    by_cases h0 : n = 0
    · subst h0; decide
    · exact (Nat.log2_lt h0).mpr h
  unfold mulOk
  have := q _ hi
  have := q _ hj
  exact decide_eq_true (by omega)
@[simp] theorem items_rng1 {j : Int} (h : j ≤ 1000000) (h' : -1000000 ≤ j) : itemsOf S .rng1 [.int j] = some ((List.range j.toNat).map fun (k : Nat) => D.int k, none) := by
  show (if decide (j ≤ 1000000) && decide (-1000000 ≤ j) then _ else _) = _
  rw [decide_eq_true h, decide_eq_true h']; rfl
end
end Ev
end
section
set_option Elab.async false
set_option linter.all false
set_option maxRecDepth 100000
namespace Ev
section
variable {g : G} {s : PS} {ss : List PS} {ρ ρ1 : Env} {S S1 : Sto} {r : Option (Fl × Sto)} {d : D}
theorem mutOf_r {n : Nat} : Ev.mutOf S (.ref n) = match S[n]? with | some (.lst ds) => some ds | _ => none := rfl
theorem listOf_r {n : Nat} : Ev.listOf S (.ref n) = match S[n]? with | some (.lst ds) => some ds | _ => none := rfl
theorem dictOf_r {n : Nat} : Ev.dictOf S (.ref n) = match S[n]? with | some (.dct ks vs) => some (ks, vs) | _ => none := rfl
theorem idx_r {n : Nat} {i : Int} : idxE S (.ref n) (.int i) = match S[n]? with | some (.lst ds) => Ev.atI ds i | some (.dct ks vs) => getK ks vs (.int i) | _ => none := by
  show (match Ev.listOf S (.ref n) with | some ds => Ev.atI ds i | none => match Ev.dictOf S (.ref n) with | some (ks, vs) => if keyOk (.int i) then getK ks vs (.int i) else none | none => none) = _
  rw [listOf_r, dictOf_r]
  cases S[n]? with
  | none => rfl
  | some o => cases o <;> rfl
theorem idx_l {ds : List D} {i : Int} : idxE S (.lst ds) (.int i) = Ev.atI ds i := rfl
theorem idx_f {ds : List D} {i : Int} : idxE S (.fz ds) (.int i) = Ev.atI ds i := rfl
theorem mth_append {n : Nat} {v : D} : mthE .append (.ref n) [v] S = match S[n]? with | some (.lst ds) => if ds.length < 16777216 then some (.non, (settle v S).2.set n (.lst (ds ++ [(settle v S).1]))) else none | _ => none := rfl
theorem mth_pop {n : Nat} : mthE .pop (.ref n) [] S = match S[n]? with | some (.lst ds) => (match ds.getLast? with | some d => some (d, S.set n (.lst ds.dropLast)) | none => none) | _ => none := rfl
theorem rcv_append {n : Nat} : recvOk .append (.ref n) S = (Ev.listOf S (.ref n)).isSome := rfl
theorem rcv_pop {n : Nat} : recvOk .pop (.ref n) S = (Ev.listOf S (.ref n)).isSome := rfl
theorem rcv_extend {n : Nat} : recvOk .extend (.ref n) S = (Ev.listOf S (.ref n)).isSome := rfl
theorem atI_nat {α : Type} {xs : List α} {k : Nat} : Ev.atI xs (k : Int) = xs[k]? := by
  unfold Ev.atI
  rw [if_pos (Int.natCast_nonneg k)]; rfl
theorem atI_0 {α : Type} {xs : List α} : Ev.atI xs 0 = xs[0]? := rfl
theorem atI_1 {α : Type} {xs : List α} : Ev.atI xs 1 = xs[1]? := rfl
theorem atI_2 {α : Type} {xs : List α} : Ev.atI xs 2 = xs[2]? := rfl
theorem atI_3 {α : Type} {xs : List α} : Ev.atI xs 3 = xs[3]? := rfl
theorem atI_4 {α : Type} {xs : List α} : Ev.atI xs 4 = xs[4]? := rfl
theorem atI_ok {α : Type} {xs : List α} {i : Int} (h0 : 0 ≤ i) (h : i < xs.length) : ∃ x, Ev.atI xs i = some x ∧ x ∈ xs := by
  unfold Ev.atI
  rw [if_pos h0]
  have hl : i.toNat < xs.length := by omega
  exact ⟨xs[i.toNat], List.getElem?_eq_getElem hl, List.getElem_mem hl⟩
theorem add_rl {n : Nat} {b : List D} : binE S .add (.ref n) (.lst b) = match S[n]? with | some (.lst a) => if a.length + b.length ≤ 16777216 then some (.lst (a ++ b)) else none | _ => none := by
  show (match Ev.mutOf S (.ref n), some b with | some x, some y => if lenOk (x.length + y.length) then some (D.lst (x ++ y)) else none | _, _ => none) = _
  rw [mutOf_r]
  cases S[n]? with
  | none => rfl
  | some o => cases o <;> first | rfl | (simp [lenOk])
theorem add_lr {n : Nat} {b : List D} : binE S .add (.lst b) (.ref n) = match S[n]? with | some (.lst a) => if b.length + a.length ≤ 16777216 then some (.lst (b ++ a)) else none | _ => none := by
  show (match some b, Ev.mutOf S (.ref n) with | some x, some y => if lenOk (x.length + y.length) then some (D.lst (x ++ y)) else none | _, _ => none) = _
  rw [mutOf_r]
  cases S[n]? with
  | none => rfl
  | some o => cases o <;> first | rfl | (simp [lenOk])
theorem add_ll {a b : List D} : binE S .add (.lst a) (.lst b) = if a.length + b.length ≤ 16777216 then some (.lst (a ++ b)) else none := by
  show (if lenOk (a.length + b.length) then some (D.lst (a ++ b)) else none) = _
  simp [lenOk]
theorem x_set {i : Nat} {e : PE} : execS g (.set i e) ρ S = bndS (evalE g e ρ S) fun d S => some (.nx (ρ.set i (some (settle d S).1)), (settle d S).2) := by rw [execS]
theorem x_expr {e : PE} : execS g (.expr e) ρ S = bndS (evalE g e ρ S) fun _ S => some (.nx ρ, S) := by rw [execS]
theorem x_ret {e : PE} : execS g (.ret e) ρ S = bndS (evalE g e ρ S) fun d S => some (.ret d, S) := by rw [execS]
theorem x_ife {c : PE} {a b : List PS} : execS g (.ife c a b) ρ S = tests (evalE g c ρ S) (fun t S => if t then execB g a ρ S else execB g b ρ S) fun c S => some (.ex c, S) := by rw [execS]
theorem x_setI {o i v : PE} : execS g (.setI o i v) ρ S = bndS (evalE g v ρ S) fun x S => bndS (evalE g o ρ S) fun a S => bndS (evalE g i ρ S) fun k S => (setItE a k x S).map fun S => (.nx ρ, S) := by rw [execS]
theorem x_par {is : List Nat} {es : List PE} : execS g (.par is es) ρ S = bndS (evalEs g es ρ S) fun ds S => (match (setNames is (settles ds S).1 ρ).map fun ρ' => (ρ', (settles ds S).2) with | some (ρ', S) => some (.nx ρ', S) | none => none) := by rw [execS]; rfl
theorem execB_nil : execB g [] ρ S = some (.nx ρ, S) := by rw [execB]
theorem execB_cons : execB g (s :: ss) ρ S = seqS (execS g s ρ S) fun ρ S => execB g ss ρ S := by rw [execB]
theorem execB_app {A B : List PS} : execB g (A ++ B) ρ S = seqS (execB g A ρ S) fun ρ S => execB g B ρ S := by
  induction A generalizing ρ S with
  | nil => rw [List.nil_append, execB_nil, seqS_nx]
  | cons s A ih =>
    rw [List.cons_append, execB_cons, execB_cons]
    cases execS g s ρ S with
    | none => rfl
    | some q =>
      obtain ⟨fl, S'⟩ := q
      cases fl with
      | nx ρ' => rw [seqS_nx, seqS_nx]; exact ih
      | ret d => rfl
      | ex c => rfl
theorem sl_of {a lo hi : D} {ds : List D} (h : Ev.listOf S a = some ds) (hl : lo = .non ∨ ∃ i, lo = .int i) (hh : hi = .non ∨ ∃ i, hi = .int i) : ∃ i j, slE S a lo hi = some (.lst (cut ds i j)) := by
  have q : ∀ (n d : Nat) (x : D), (x = .non ∨ ∃ i, x = .int i) → ∃ k, sIx n d x = some k := fun n d x hx => by
    rcases hx with rfl | ⟨i, rfl⟩
    · exact ⟨_, rfl⟩
    · exact ⟨_, rfl⟩
  obtain ⟨i, hi'⟩ := q ds.length 0 lo hl
  obtain ⟨j, hj'⟩ := q ds.length ds.length hi hh
  refine ⟨i, j, ?_⟩
  unfold slE
  cases a <;> first | (cases h; done) | (simp only [h, hi', hj'])
theorem cut_map {α β : Type} {f : α → β} {xs : List α} {i j : Nat} : cut (xs.map f) i j = (cut xs i j).map f := by unfold cut; rw [List.map_take, List.map_drop]
theorem cut_mem {α : Type} {xs : List α} {i j : Nat} {x : α} (h : x ∈ cut xs i j) : x ∈ xs := List.mem_of_mem_drop (List.mem_of_mem_take h)
theorem go (h : execS g s ρ S = some (.nx ρ1, S1)) (h2 : execB g ss ρ1 S1 = r) : execB g (s :: ss) ρ S = r := by
  unfold execB
  rw [h, seqS_nx, h2]
theorem goR (h : execS g s ρ S = some (.ret d, S1)) : execB g (s :: ss) ρ S = some (.ret d, S1) := by
  unfold execB
  rw [h, seqS_ret]
theorem fin_go (h : execB g ss ρ S = some (.ret d, S1)) {b : Nat} : finish b (execB g ss ρ S) = leave b d S1 := by rw [h]; rfl
theorem fin_nx (h : execB g ss ρ S = some (.nx ρ1, S1)) {b : Nat} : finish b (execB g ss ρ S) = leave b .non S1 := by rw [h]; rfl
theorem for_rng1 {i : Nat} {e : PE} {body : List PS} {j : Int} {P : Nat → Env → Sto → Prop} (he : evalE g e ρ S = some (.ok (.int j) S)) (h1 : j ≤ 1000000) (h2 : -1000000 ≤ j) (hP : P 0 ρ S)
    (step : ∀ (k : Nat) ρ S, k < j.toNat → P k ρ S → ∃ ρ' S', execB g body (ρ.set i (some (.int k))) S = some (.nx ρ', S') ∧ P (k + 1) ρ' S') : ∃ ρ' S', execS g (.for_ (.nm i) .rng1 [e] body) ρ S = some (.nx ρ', S') ∧ P j.toNat ρ' S' := by
  have q := forL_rel (f := fun d ρ S => match setTg (.nm i) d ρ S with | some (ρ', S) => execB g body ρ' S | none => none) ((List.range j.toNat).map fun (k : Nat) => D.int k) P (fun k d ρ S hk p => by
    rw [List.getElem?_map] at hk
    obtain ⟨k', e1, rfl⟩ := Option.map_eq_some_iff.mp hk
    obtain ⟨l1, e2⟩ := List.getElem?_eq_some_iff.mp e1
    rw [List.getElem_range] at e2
    subst e2
    exact step k ρ S (by simpa using l1) p) ρ S hP
  obtain ⟨ρ', S', q1, q2⟩ := q
  refine ⟨ρ', S', ?_, by simpa using q2⟩
  unfold execS evalEs
  rw [he, bnd_ok]
  unfold evalEs
  rw [bnd_ok, bndS_ok, items_rng1 h1 h2]
  exact q1
/-- over plain items that no object of the store holds -/
theorem for_val {i : Nat} {e : PE} {body : List PS} {dv : D} {its : List D} {P : Nat → Env → Sto → Prop} (he : evalE g e ρ S = some (.ok dv S1)) (hi : itemsOf S1 .val [dv] = some (its, none)) (hp : pures its = true) (hP : P 0 ρ S1)
    (step : ∀ (k : Nat) d ρ S, its[k]? = some d → P k ρ S → ∃ ρ' S', execB g body (ρ.set i (some d)) S = some (.nx ρ', S') ∧ P (k + 1) ρ' S') : ∃ ρ' S', execS g (.for_ (.nm i) .val [e] body) ρ S = some (.nx ρ', S') ∧ P its.length ρ' S' := by
  have q := forL_rel (f := fun d ρ S => match setTg (.nm i) d ρ S with | some (ρ', S) => execB g body ρ' S | none => none) its P (fun k d ρ S hk p => by
    have hd : d.pure = true := by
      rw [pures_all, List.all_eq_true] at hp
      exact hp d (List.mem_of_getElem? hk)
    show ∃ ρ' S', execB g body (ρ.set i (some (settle d S).1)) (settle d S).2 = _ ∧ _
    rw [settle_pure d S hd]
    exact step k d ρ S hk p) ρ S1 hP
  obtain ⟨ρ', S', q1, q2⟩ := q
  refine ⟨ρ', S', ?_, q2⟩
  unfold execS evalEs
  rw [he, bnd_ok]
  unfold evalEs
  rw [bnd_ok, bndS_ok, hi]
  exact q1
theorem while_eq {c : Env → Sto → Option (R D)} {b : Env → Sto → Option (Fl × Sto)} : whileL c b ρ S = (match c ρ S with
  | none => none
  | some (.ex x S) => some (.ex x, S)
  | some (.ok d S) => match truth S d with
    | none => none
    | some false => some (.nx ρ, S)
    | some true => match b ρ S with
      | none => none
      | some (.ret d, S) => some (.ret d, S)
      | some (.ex x, S) => some (.ex x, S)
      | some (.nx ρ', S') => whileL c b ρ' S') := by
  (conv => lhs; rw [whileL]) <;> rfl
theorem while_rel {c : PE} {body : List PS} (P : Nat → Env → Sto → Prop) (Qf : Env → Sto → Prop)
    (step : ∀ m ρ S, P m ρ S → ∃ d S1 t, evalE g c ρ S = some (.ok d S1) ∧ truth S1 d = some t ∧ (t = true → ∃ ρ2 S2 m2, execB g body ρ S1 = some (.nx ρ2, S2) ∧ m2 < m ∧ P m2 ρ2 S2) ∧ (t = false → Qf ρ S1)) :
    ∀ m ρ S, P m ρ S → ∃ ρ' S', execS g (.while_ c body) ρ S = some (.nx ρ', S') ∧ Qf ρ' S' := by
  intro m
  induction m using Nat.strongRecOn with
  | ind m ih =>
    intro ρ S p
    obtain ⟨d, S1, t, e1, e2, h1, h2⟩ := step m ρ S p
    unfold execS
    rw [while_eq]
    simp only [e1, e2]
    cases t with
    | false => exact ⟨ρ, S1, rfl, h2 rfl⟩
    | true =>
      obtain ⟨ρ2, S2, m2, e3, hm, p2⟩ := h1 rfl
      obtain ⟨ρ', S', e4, q⟩ := ih m2 hm ρ2 S2 p2
      unfold execS at e4
      simp only [e3]
      exact ⟨ρ', S', e4, q⟩
end
end Ev
end
section
set_option Elab.async false
set_option linter.all false
set_option maxRecDepth 100000
namespace Ev
section
variable {g : G} {ρ : Env} {S : Sto}
theorem compL_f {α : Type} {f : α → D} {F : D → Sto → Option (R (Option D))} {p : α → Bool} {v : α → D} : ∀ (rs : List α), (∀ r ∈ rs, F (f r) S = some (.ok (if p r then some (v r) else none) S)) → compL none F (rs.map f) S = some ((rs.filter p).map v, S)
  | [], _ => by rw [List.map_nil, compL, guard_none]; rfl
  | r :: rs, h => by
    rw [List.map_cons, compL, guard_none, h r List.mem_cons_self, bndN_ok, compL_f rs fun x m => h x (List.mem_cons_of_mem _ m), Option.map_some]
    cases hp : p r with
    | true => simp [hp]
    | false => simp [hp]
theorem comp_f {α : Type} {f : α → D} {rs : List α} {p : α → Bool} {v : α → D} {i : Nat} {e elt : PE} {ifs : List PE} {dv : D} (he : evalE g e ρ S = some (.ok dv S)) (hi : itemsOf S .val [dv] = some (rs.map f, none)) (hp : ∀ r ∈ rs, (f r).pure = true)
    (hc : ∀ r ∈ rs, evalIfs g ifs (ρ.set i (some (f r))) S = some (.ok (p r) S)) (hv : ∀ r ∈ rs, p r = true → evalE g elt (ρ.set i (some (f r))) S = some (.ok (v r) S)) : evalE g (.comp (.nm i) .val [e] ifs elt) ρ S = some (.ok (.lst ((rs.filter p).map v)) S) := by
  rw [evalE]
  rw [evalEs, he, bnd_ok, evalEs, bnd_ok, bnd_ok, hi]
  simp only
  rw [compL_f (p := p) (v := v) rs fun r m => ?_]
  · rfl
  · show bnd (evalIfs g ifs (ρ.set i (some (settle (f r) S).1)) (settle (f r) S).2) _ = _
    rw [settle_pure _ _ (hp r m)]
    simp only
    rw [hc r m, bnd_ok]
    cases h : p r with
    | true => simp [hv r m h]
    | false => simp
theorem ifs_1 {c : PE} {b : Bool} {d : D} (h : evalE g c ρ S = some (.ok d S)) (ht : truth S d = some b) : evalIfs g [c] ρ S = some (.ok b S) := by
  rw [evalIfs, h, tests_ok, ht]
  cases b <;> simp [evalIfs]
end
section
variable {S : Sto}
theorem res_mapM {k : Nat} : ∀ ds : List D, pures ds = true → ds.mapM (res S (k + 1)) = some ds
  | [], _ => rfl
  | d :: ds, h => by
    unfold pures at h
    obtain ⟨h1, h2⟩ := Bool.and_eq_true_iff.mp h
    rw [List.mapM_cons, res_pure h1, res_mapM ds h2]; rfl
theorem res_lst {k : Nat} {ds : List D} (h : pures ds = true) : res S (k + 2) (.lst ds) = some (.lst ds) := by
  rw [res]
  rw [if_neg (by simp [D.pure])]
  simp only [res_mapM ds h, Option.map_some]
theorem res_ref {k n : Nat} {ds : List D} (hn : S[n]? = some (.lst ds)) (h : pures ds = true) : res S (k + 2) (.ref n) = some (.lst ds) := by
  rw [res]
  rw [if_neg (by simp [D.pure])]
  simp only [hn, res_mapM ds h, Option.map_some]
theorem eq_nil {n : Nat} {ds : List D} (hn : S[n]? = some (.lst ds)) (h : pures ds = true) : eqE S (.ref n) (.lst []) = some ds.isEmpty := by
  unfold eqE
  rw [res_ref hn h, res_lst (ds := []) rfl]
  have hd : min (D.lst ds).depth (D.lst []).depth ≤ 150 := by simp [D.depth, depths]
  simp only [if_pos hd]
  cases ds <;> simp [D.eqv, eqvs]
theorem eq_ts {ds : List D} {y : PySem.Str} (h : pures ds = true) : eqE S (.tup ds) (.str y) = some false := by
  rw [eq_pure (by unfold D.pure; exact h) rfl (by simp [D.depth])]
  rfl
end
mutual
def nodes : D → Nat
  | .tup ds => 1 + nodess ds
  | _ => 1
def nodess : List D → Nat
  | [] => 0
  | d :: ds => nodes d + nodess ds
end
theorem nodes_pos (d : D) : 1 ≤ nodes d := by
  cases d <;> (unfold nodes; omega)
end Ev
end
section
set_option Elab.async false
set_option linter.all false
set_option maxRecDepth 100000
namespace Ev
open PySem
/-- a type that speaks of a (so that a is left alone where it is rewritten) -/
abbrev Dep {β : Type} (_ : β) (α : Type) : Type := α
section
variable {α β : Type} {g : G} {ρ : Env} {S : Sto} {Q : D → Sto → Prop} {X : Nat → Sto → Prop} {Qn : Env → Sto → Prop}
def wpR {α : Type} (Q : α → Sto → Prop) (X : Nat → Sto → Prop) (m : Dep (Q, X) (Option (R α))) : Prop := match (m : Option (R α)) with
  | some (.ok a S) => Q a S
  | some (.ex c S) => X c S
  | none => False
def wpO {α : Type} (k : α → Prop) (o : Dep k (Option α)) : Prop := match (o : Option α) with
  | some a => k a
  | none => False
/-- a fork -/
def wpT (A B : Prop) (b : Dep (A, B) Bool) : Prop := (b = true → A) ∧ (b = false → B)
def wpE (g : G) (e : PE) (Q : D → Sto → Prop) (X : Nat → Sto → Prop) (ρ : Env) (S : Dep (g, e, Q, X, ρ) Sto) : Prop := wpR Q X (evalE g e ρ S)
def wpEs (g : G) (es : List PE) (Q : List D → Sto → Prop) (X : Nat → Sto → Prop) (ρ : Env) (S : Dep (g, es, Q, X, ρ) Sto) : Prop := wpR Q X (evalEs g es ρ S)
def wpF (Qn : Env → Sto → Prop) (Q : D → Sto → Prop) (X : Nat → Sto → Prop) (m : Dep (Qn, Q, X) (Option (Fl × Sto))) : Prop := match (m : Option (Fl × Sto)) with
  | some (.nx ρ, S) => Qn ρ S
  | some (.ret d, S) => Q d S
  | some (.ex c, S) => X c S
  | none => False
def wpB (g : G) (ss : List PS) (Qn : Env → Sto → Prop) (Q : D → Sto → Prop) (X : Nat → Sto → Prop) (ρ : Dep (g, ss, Qn, Q, X) Env) (S : Dep (g, ss, Qn, Q, X) Sto) : Prop := wpF Qn Q X (execB g ss ρ S)
def wpS (g : G) (s : PS) (Qn : Env → Sto → Prop) (Q : D → Sto → Prop) (X : Nat → Sto → Prop) (ρ : Dep (g, s, Qn, Q, X) Env) (S : Dep (g, s, Qn, Q, X) Sto) : Prop := wpF Qn Q X (execS g s ρ S)
def exD (S : Sto) : D → D → Option Sto
  | .ref n, .lst es => match S[n]? with
    | some (.lst ds) => if lenOk (ds.length + es.length) then some ((settles es S).2.set n (.lst (ds ++ (settles es S).1))) else none
    | _ => none
  | _, _ => none
def refD : D → Option D
  | .ref n => some (.ref n)
  | _ => none
def getV : Env → Nat → Option D
  | [], _ => none
  | x :: _, 0 => x
  | _ :: ρ, i + 1 => getV ρ i
theorem getV_eq : ∀ (ρ : Env) (i : Nat), getV ρ i = (match ρ[i]? with | some (some d) => some d | _ => none)
  | [], _ => rfl
  | x :: ρ, 0 => by
    show x = _
    rw [List.getElem?_cons_zero]
    cases x <;> rfl
  | _ :: ρ, i + 1 => by
    show getV ρ i = _
    rw [getV_eq ρ i, List.getElem?_cons_succ]
theorem getV_0 {x : Option D} {ρ : Env} : getV (x :: ρ) 0 = x := rfl
theorem getV_s {x : Option D} {ρ : Env} {i : Nat} : getV (x :: ρ) (i + 1) = getV ρ i := rfl
/-! ### the parts -/
theorem wpR_ok {a : α} {Q : α → Sto → Prop} : wpR Q X (some (.ok a S)) = Q a S := rfl
theorem wpR_ex {c : Nat} {Q : α → Sto → Prop} : wpR Q X (some (.ex c S)) = X c S := rfl
theorem wpR_bnd {m : Option (R α)} {f : α → Sto → Option (R β)} {Q : β → Sto → Prop} : wpR Q X (bnd m f) = wpR (fun a S => wpR Q X (f a S)) X m := by
  cases m with
  | none => rfl
  | some r => cases r <;> rfl
theorem wpR_map {o : Option α} {f : α → D} : wpR Q X (o.map fun z => R.ok (f z) S) = wpO (fun z => Q (f z) S) o := by cases o <;> rfl
theorem wpO_some {a : α} {k : α → Prop} : wpO k (some a) = k a := rfl
theorem wpO_map {o : Option α} {f : α → β} {k : β → Prop} : wpO k (o.map f) = wpO (fun a => k (f a)) o := by cases o <;> rfl
theorem wpT_true {A B : Prop} : wpT A B true = A := by simp [wpT]
theorem wpT_false {A B : Prop} : wpT A B false = B := by simp [wpT]
theorem wpT_not {b : Bool} {A B : Prop} : wpT A B (!b) = wpT B A b := by cases b <;> simp [wpT]
theorem wpT_ite {b : Bool} {A B : Prop} : (if b = true then A else B) = wpT A B b := by cases b <;> simp [wpT]
theorem wpT_pos {c : Prop} [Decidable c] {A B : Prop} (h : c) : wpT A B (decide c) = A := by rw [decide_eq_true h, wpT_true]
theorem wpT_neg {c : Prop} [Decidable c] {A B : Prop} (h : ¬ c) : wpT A B (decide c) = B := by rw [decide_eq_false h, wpT_false]
theorem wpR_tests {m : Option (R D)} {f : Bool → Sto → Option (R α)} {Q : α → Sto → Prop} : wpR Q X (tests m f fun c S => some (.ex c S)) = wpR (fun d S => wpO (fun b => wpR Q X (f b S)) (truth S d)) X m := by
  cases m with
  | none => rfl
  | some r =>
    cases r with
    | ex c S => rfl
    | ok d S =>
      show wpR Q X (match truth S d with | some b => f b S | none => none) = wpO _ (truth S d)
      cases truth S d <;> rfl
theorem wpR_match {o : Option Bool} {A B : Option (R α)} {Q : α → Sto → Prop} : wpR Q X (match o with | some true => A | some false => B | none => none) = wpO (fun b => wpT (wpR Q X A) (wpR Q X B) b) o := by
  cases o with
  | none => rfl
  | some b => cases b <;> simp [wpO, wpT]
theorem wpR_cq {m : Option (R α)} {Q Q' : α → Sto → Prop} (h : ∀ a S, Q a S = Q' a S) : wpR Q X m = wpR Q' X m := by
  have : Q = Q' := funext fun a => funext fun S => h a S
  rw [this]
theorem wpO_cq {m : Option α} {k k' : α → Prop} (h : ∀ a, k a = k' a) : wpO k m = wpO k' m := by
  have : k = k' := funext h
  rw [this]
/-! ### expressions -/
theorem wpE_var {i : Nat} : wpE g (.var i) Q X ρ S = wpO (fun d => Q d S) (getV ρ i) := by
  unfold wpE evalE
  rw [getV_eq]
  cases ρ[i]? with
  | none => rfl
  | some o => cases o <;> rfl
theorem wpE_cst {d : D} : wpE g (.cst d) Q X ρ S = Q d S := by unfold wpE evalE; rfl
theorem wpE_tup {es : List PE} : wpE g (.tup es) Q X ρ S = wpEs g es (fun ds S => Q (.tup ds) S) X ρ S := by unfold wpE evalE wpEs; rw [wpR_bnd]; rfl
theorem wpE_lst {es : List PE} : wpE g (.lst es) Q X ρ S = wpEs g es (fun ds S => Q (.lst ds) S) X ρ S := by unfold wpE evalE wpEs; rw [wpR_bnd]; rfl
theorem wpE_dct0 : wpE g .dct0 Q X ρ S = Q (.dct [] []) S := by unfold wpE evalE; rfl
theorem wpE_bin {o : Bin} {a b : PE} : wpE g (.bin o a b) Q X ρ S = wpE g a (fun x S => wpE g b (fun y S => wpO (fun z => Q z S) (binE S o x y)) X ρ S) X ρ S := by
  unfold wpE; rw [evalE, wpR_bnd]; exact wpR_cq fun x S => by rw [wpR_bnd]; exact wpR_cq fun y S => wpR_map (f := fun z => z)
theorem wpE_neg {a : PE} : wpE g (.neg a) Q X ρ S = wpE g a (fun x S => wpO (fun i => Q (.int (-i)) S) (match x with | .int i => some i | _ => none)) X ρ S := by
  unfold wpE; rw [evalE, wpR_bnd]
  congr 1; funext x S; cases x <;> rfl
theorem wpE_not {a : PE} : wpE g (.not a) Q X ρ S = wpE g a (fun x S => wpO (fun b => Q (.bl (!b)) S) (truth S x)) X ρ S := by
  unfold wpE; rw [evalE, wpR_tests]; rfl
theorem wpE_and {a b : PE} : wpE g (.and a b) Q X ρ S = wpE g a (fun x S => wpO (fun t => wpT (wpE g b Q X ρ S) (Q x S) t) (truth S x)) X ρ S := by
  unfold wpE; rw [evalE, wpR_bnd]; exact wpR_cq fun x S => wpR_match
theorem wpE_or {a b : PE} : wpE g (.or a b) Q X ρ S = wpE g a (fun x S => wpO (fun t => wpT (Q x S) (wpE g b Q X ρ S) t) (truth S x)) X ρ S := by
  unfold wpE; rw [evalE, wpR_bnd]; exact wpR_cq fun x S => wpR_match
theorem wpE_cmp {o : Cmp} {a b : PE} : wpE g (.cmp o a b) Q X ρ S = wpE g a (fun x S => wpE g b (fun y S => wpO (fun z => Q (.bl z) S) (cmpE S o x y)) X ρ S) X ρ S := by
  unfold wpE; rw [evalE, wpR_bnd]; exact wpR_cq fun x S => by rw [wpR_bnd]; exact wpR_cq fun y S => wpR_map (f := fun z => D.bl z)
theorem wpE_cmp2 {o o' : Cmp} {a b c : PE} : wpE g (.cmp2 o o' a b c) Q X ρ S = wpE g a (fun x S => wpE g b (fun y S => wpO (fun t => wpT (wpE g c (fun z S => wpO (fun u => Q (.bl u) S) (cmpE S o' y z)) X ρ S) (Q (.bl false) S) t) (cmpE S o x y)) X ρ S) X ρ S := by
  unfold wpE; rw [evalE, wpR_bnd]
  refine wpR_cq fun x S => ?_
  rw [wpR_bnd]
  refine wpR_cq fun y S => ?_
  refine Eq.trans wpR_match (wpO_cq fun t => ?_)
  rw [wpR_bnd]
  congr 1
  exact wpR_cq fun z S => wpR_map (f := fun u => D.bl u)
theorem wpE_is {n : Bool} {a : PE} {c : D} : wpE g (.is_ n a c) Q X ρ S = wpE g a (fun x S => wpO (fun b => Q (.bl b) S) (isC n c x)) X ρ S := by
  unfold wpE; rw [evalE, wpR_bnd]; exact wpR_cq fun x S => wpR_map (f := fun b => D.bl b)
theorem wpE_ife {c a b : PE} : wpE g (.ife c a b) Q X ρ S = wpE g c (fun x S => wpO (fun t => wpT (wpE g a Q X ρ S) (wpE g b Q X ρ S) t) (truth S x)) X ρ S := by
  unfold wpE; rw [evalE, wpR_tests]
  congr 1; funext d S
  congr 1; funext t
  cases t <;> simp [wpT]
theorem wpE_idx {a i : PE} : wpE g (.idx a i) Q X ρ S = wpE g a (fun x S => wpE g i (fun y S => wpO (fun z => Q z S) (idxE S x y)) X ρ S) X ρ S := by
  unfold wpE; rw [evalE, wpR_bnd]; exact wpR_cq fun x S => by rw [wpR_bnd]; exact wpR_cq fun y S => wpR_map (f := fun z => z)
theorem wpE_sl {a lo hi : PE} : wpE g (.sl a lo hi) Q X ρ S = wpE g a (fun x S => wpE g lo (fun l S => wpO (fun _ => wpE g hi (fun h S => wpO (fun z => Q z S) (slE S x l h)) X ρ S) (if isPart l then some () else none)) X ρ S) X ρ S := by
  unfold wpE; rw [evalE, wpR_bnd]
  refine wpR_cq fun x S => ?_
  rw [wpR_bnd]
  refine wpR_cq fun l S => ?_
  cases isPart l with
  | true =>
    show wpR Q X (bnd (evalE g hi ρ S) _) = wpR _ X (evalE g hi ρ S)
    rw [wpR_bnd]
    exact wpR_cq fun h S => wpR_map (f := fun z => z)
  | false => rfl
theorem wpE_call {f : Nat} {es : List PE} : wpE g (.call f es) Q X ρ S = wpEs g es (fun ds S => wpR Q X (g.F f ds S)) X ρ S := by unfold wpE wpEs; rw [evalE, wpR_bnd]
theorem wpE_blt {b : Blt} {es : List PE} : wpE g (.blt b es) Q X ρ S = wpEs g es (fun ds S => wpO (fun z => Q z S) (bltE S b ds)) X ρ S := by unfold wpE wpEs; rw [evalE, wpR_bnd]; exact wpR_cq fun x S => wpR_map (f := fun z => z)
theorem wpE_mth {m : Mth} {o : PE} {es : List PE} : wpE g (.mth m o es) Q X ρ S = wpE g o (fun x S => wpO (fun _ => wpEs g es (fun ds S => wpO (fun r => Q r.1 r.2) (mthE m x ds S)) X ρ S) (if recvOk m x S then some () else none)) X ρ S := by
  unfold wpE wpEs; rw [evalE, wpR_bnd]
  congr 1; funext x S
  cases recvOk m x S with
  | true =>
    show wpR Q X (bnd (evalEs g es ρ S) _) = wpR _ X (evalEs g es ρ S)
    rw [wpR_bnd]
    refine wpR_cq fun ds S => ?_
    cases mthE m x ds S <;> rfl
  | false => rfl
theorem wpE_isi {a : PE} {ts : List Ty} : wpE g (.isi a ts) Q X ρ S = wpE g a (fun x S => wpO (fun b => Q (.bl b) S) (isTys g.isa S x ts)) X ρ S := by
  unfold wpE; rw [evalE, wpR_bnd]; exact wpR_cq fun x S => wpR_map (f := fun b => D.bl b)
theorem wpEs_nil {Q : List D → Sto → Prop} : wpEs g [] Q X ρ S = Q [] S := by unfold wpEs; rw [evalEs]; rfl
theorem wpEs_cons {e : PE} {es : List PE} {Q : List D → Sto → Prop} : wpEs g (e :: es) Q X ρ S = wpE g e (fun d S => wpEs g es (fun ds S => Q (d :: ds) S) X ρ S) X ρ S := by
  unfold wpEs wpE; rw [evalEs, wpR_bnd]; exact wpR_cq fun d S => wpR_bnd
/-! ### statements -/
theorem wpF_bnd {m : Option (R α)} {f : α → Sto → Option (Fl × Sto)} : wpF Qn Q X (bndS m f) = wpR (fun a S => wpF Qn Q X (f a S)) X m := by
  cases m with
  | none => rfl
  | some r => cases r <;> rfl
theorem wpF_seq {m : Option (Fl × Sto)} {f : Env → Sto → Option (Fl × Sto)} : wpF Qn Q X (seqS m f) = wpF (fun ρ S => wpF Qn Q X (f ρ S)) Q X m := by
  cases m with
  | none => rfl
  | some r => obtain ⟨fl, S⟩ := r; cases fl <;> rfl
theorem wpF_tests {m : Option (R D)} {f : Bool → Sto → Option (Fl × Sto)} : wpF Qn Q X (tests m f fun c S => some (.ex c, S)) = wpR (fun d S => wpO (fun b => wpF Qn Q X (f b S)) (truth S d)) X m := by
  cases m with
  | none => rfl
  | some r =>
    cases r with
    | ex c S => rfl
    | ok d S =>
      show wpF Qn Q X (match truth S d with | some b => f b S | none => none) = wpO _ (truth S d)
      cases truth S d <;> rfl
theorem wpB_nil : wpB g [] Qn Q X ρ S = Qn ρ S := by unfold wpB; rw [execB]; rfl
theorem wpB_cons {s : PS} {ss : List PS} : wpB g (s :: ss) Qn Q X ρ S = wpS g s (fun ρ S => wpB g ss Qn Q X ρ S) Q X ρ S := by unfold wpB wpS; rw [execB, wpF_seq]
theorem wpS_set {i : Nat} {e : PE} : wpS g (.set i e) Qn Q X ρ S = wpE g e (fun d S => Qn (ρ.set i (some (settle d S).1)) (settle d S).2) X ρ S := by unfold wpS wpE; rw [execS, wpF_bnd]; rfl
theorem wpS_setT {is : List Nat} {e : PE} : wpS g (.setT is e) Qn Q X ρ S = wpE g e (fun d S => wpO (fun r => Qn r.1 r.2) (setTg (.tp is) d ρ S)) X ρ S := by
  unfold wpS wpE; rw [execS, wpF_bnd]
  congr 1; funext d S
  cases setTg (.tp is) d ρ S <;> rfl
theorem wpS_par {is : List Nat} {es : List PE} : wpS g (.par is es) Qn Q X ρ S = wpEs g es (fun ds S => wpO (fun r => Qn r (settles ds S).2) (setNames is (settles ds S).1 ρ)) X ρ S := by
  unfold wpS wpEs; rw [execS, wpF_bnd]
  congr 1; funext d S
  show wpF Qn Q X (match (setNames is (settles d S).1 ρ).map fun ρ' => (ρ', (settles d S).2) with | some (ρ', S) => some (.nx ρ', S) | none => none) = _
  cases setNames is (settles d S).1 ρ <;> rfl
theorem wpS_setI {o i v : PE} : wpS g (.setI o i v) Qn Q X ρ S = wpE g v (fun x S => wpE g o (fun a S => wpE g i (fun k S => wpO (fun S => Qn ρ S) (setItE a k x S)) X ρ S) X ρ S) X ρ S := by
  unfold wpS wpE; rw [execS, wpF_bnd]
  refine wpR_cq fun x S => ?_
  rw [wpF_bnd]
  refine wpR_cq fun a S => ?_
  rw [wpF_bnd]
  refine wpR_cq fun k S => ?_
  cases setItE a k x S <;> rfl
theorem wpS_expr {e : PE} : wpS g (.expr e) Qn Q X ρ S = wpE g e (fun _ S => Qn ρ S) X ρ S := by unfold wpS wpE; rw [execS, wpF_bnd]; rfl
theorem wpS_ret {e : PE} : wpS g (.ret e) Qn Q X ρ S = wpE g e Q X ρ S := by unfold wpS wpE; rw [execS, wpF_bnd]; rfl
theorem wpS_ife {c : PE} {a b : List PS} : wpS g (.ife c a b) Qn Q X ρ S = wpE g c (fun d S => wpO (fun t => wpT (wpB g a Qn Q X ρ S) (wpB g b Qn Q X ρ S) t) (truth S d)) X ρ S := by
  unfold wpS wpE wpB; rw [execS, wpF_tests]
  congr 1; funext d S
  congr 1; funext t
  cases t <;> simp [wpT]
theorem wpS_raise {c : Nat} : wpS g (.raise c) Qn Q X ρ S = X c S := by unfold wpS; rw [execS]; rfl
theorem wpS_try {e : PE} {c i j : Nat} : wpS g (.try_ [.expr e] c i j) Qn Q X ρ S = wpE g e (fun _ S => Qn ρ S) (fun x S => wpT (Qn ((ρ.set i (some (.exc x))).set j none) S) (X x S) (g.isa x (.cls c))) ρ S := by
  unfold wpS wpE; rw [execS, execB, execS]
  cases evalE g e ρ S with
  | none => rfl
  | some r =>
    cases r with
    | ok d S => simp only [bndS_ok, seqS_nx, execB]; rfl
    | ex x S =>
      simp only [bndS_ex, seqS_ex]
      show wpF Qn Q X (if g.isa x (.cls c) then some (.nx ((ρ.set i (some (.exc x))).set j none), S) else some (.ex x, S)) = _
      show _ = wpT (Qn ((ρ.set i (some (.exc x))).set j none) S) (X x S) (g.isa x (.cls c))
      cases g.isa x (.cls c) <;> simp [wpT, wpF]
theorem wpS_aug {i : Nat} {o : Bin} {e : PE} : wpS g (.aug i o e) Qn Q X ρ S = wpO (fun x => wpE g e (fun y S => wpO (fun z => Qn (ρ.set i (some z)) S) (match x, y with | .int a, .int b => binE S o (.int a) (.int b) | _, _ => none)) X ρ S) (getV ρ i) := by
  unfold wpS wpE; rw [execS, getV_eq]
  cases ρ[i]? with
  | none => rfl
  | some q =>
    cases q with
    | none => rfl
    | some x =>
      simp only [wpO_some]
      rw [wpF_bnd]
      congr 1; funext y S
      cases x <;> first | rfl | (cases y <;> first | rfl | (rename_i a b; simp only []; cases binE S o (.int a) (.int b) <;> rfl))
theorem wpS_augL {i : Nat} {e : PE} : wpS g (.augL i e) Qn Q X ρ S = wpO (fun x => wpE g e (fun y S => wpO (fun Z => Qn ρ Z) (exD S x y)) X ρ S) ((getV ρ i).bind refD) := by
  unfold wpS wpE; rw [execS, getV_eq]
  cases ρ[i]? with
  | none => rfl
  | some q =>
    cases q with
    | none => rfl
    | some x =>
      cases x with
      | ref n =>
        show wpF Qn Q X (bndS (evalE g e ρ S) _) = wpR _ X (evalE g e ρ S)
        rw [wpF_bnd]
        refine wpR_cq fun y S => ?_
        cases y with
        | lst es =>
          show wpF Qn Q X (match S[n]? with | some (.lst ds) => if lenOk (ds.length + es.length) then some (.nx ρ, (settles es S).2.set n (.lst (ds ++ (settles es S).1))) else none | _ => none) = wpO _ (match S[n]? with | some (.lst ds) => if lenOk (ds.length + es.length) then some ((settles es S).2.set n (.lst (ds ++ (settles es S).1))) else none | _ => none)
          cases S[n]? with
          | none => rfl
          | some d =>
            cases d with
            | lst ds =>
              show wpF Qn Q X (if lenOk (ds.length + es.length) then some (.nx ρ, (settles es S).2.set n (.lst (ds ++ (settles es S).1))) else none) = wpO _ (if lenOk (ds.length + es.length) then some ((settles es S).2.set n (.lst (ds ++ (settles es S).1))) else none)
              cases lenOk (ds.length + es.length) <;> rfl
            | _ => rfl
        | _ => rfl
      | _ => rfl
theorem wpS_tryS {i c : Nat} {e : PE} : wpS g (.tryS i e c) Qn Q X ρ S = wpE g e (fun d S => Qn (ρ.set i (some (settle d S).1)) (settle d S).2) (fun x S => wpT False (X x S) (g.isa x (.cls c))) ρ S := by
  unfold wpS wpE; rw [execS]
  cases evalE g e ρ S with
  | none => rfl
  | some r =>
    cases r with
    | ok d S => rfl
    | ex x S =>
      show wpF Qn Q X (if g.isa x (.cls c) then none else some (.ex x, S)) = wpT False (X x S) (g.isa x (.cls c))
      cases g.isa x (.cls c) <;> simp [wpT, wpF]
theorem wpS_tryR {i c c' : Nat} {e : PE} : wpS g (.tryR i e c c') Qn Q X ρ S = wpE g e (fun d S => Qn (ρ.set i (some (settle d S).1)) (settle d S).2) (fun x S => wpT (X c' S) (X x S) (g.isa x (.cls c))) ρ S := by
  unfold wpS wpE; rw [execS]
  cases evalE g e ρ S with
  | none => rfl
  | some r =>
    cases r with
    | ok d S => rfl
    | ex x S =>
      show wpF Qn Q X (if g.isa x (.cls c) then some (.ex c', S) else some (.ex x, S)) = wpT (X c' S) (X x S) (g.isa x (.cls c))
      cases g.isa x (.cls c) <;> simp [wpT, wpF]
theorem wpS_tryC {i c : Nat} {e : PE} {d0 : D} : wpS g (.tryC i e c d0) Qn Q X ρ S = wpE g e (fun d S => Qn (ρ.set i (some (settle d S).1)) (settle d S).2) (fun x S => wpT (Qn (ρ.set i (some d0)) S) (X x S) (g.isa x (.cls c))) ρ S := by
  unfold wpS wpE; rw [execS]
  cases evalE g e ρ S with
  | none => rfl
  | some r =>
    cases r with
    | ok d S => rfl
    | ex x S =>
      show wpF Qn Q X (if g.isa x (.cls c) then some (.nx (ρ.set i (some d0)), S) else some (.ex x, S)) = wpT (Qn (ρ.set i (some d0)) S) (X x S) (g.isa x (.cls c))
      cases g.isa x (.cls c) <;> simp [wpT, wpF]
/-! ### consequence -/
theorem wpR_mono {m : Option (R α)} {Q Q' : α → Sto → Prop} {X X' : Nat → Sto → Prop} (h : wpR Q X m) (q : ∀ a S, Q a S → Q' a S) (x : ∀ c S, X c S → X' c S) : wpR Q' X' m := by
  match m, h with
  | some (.ok a S), h => exact q a S h
  | some (.ex c S), h => exact x c S h
theorem wpF_mono {m : Option (Fl × Sto)} {Qn Qn' : Env → Sto → Prop} {Q Q' : D → Sto → Prop} {X X' : Nat → Sto → Prop} (h : wpF Qn Q X m) (n : ∀ ρ S, Qn ρ S → Qn' ρ S) (q : ∀ a S, Q a S → Q' a S) (x : ∀ c S, X c S → X' c S) : wpF Qn' Q' X' m := by
  match m, h with
  | some (.nx ρ, S), h => exact n ρ S h
  | some (.ret a, S), h => exact q a S h
  | some (.ex c, S), h => exact x c S h
theorem wpB_mono {ss : List PS} {Qn Qn' : Env → Sto → Prop} {Q Q' : D → Sto → Prop} {X X' : Nat → Sto → Prop} (h : wpB g ss Qn Q X ρ S) (n : ∀ ρ S, Qn ρ S → Qn' ρ S) (q : ∀ a S, Q a S → Q' a S) (x : ∀ c S, X c S → X' c S) : wpB g ss Qn' Q' X' ρ S := wpF_mono h n q x
theorem wpE_mono {e : PE} {Q Q' : D → Sto → Prop} {X X' : Nat → Sto → Prop} (h : wpE g e Q X ρ S) (q : ∀ a S, Q a S → Q' a S) (x : ∀ c S, X c S → X' c S) : wpE g e Q' X' ρ S := wpR_mono h q x
theorem wpR_eq {m : Option (R α)} {a : α} (h : m = some (.ok a S)) {Q : α → Sto → Prop} (q : Q a S) : wpR Q X m := by rw [h]; exact q
theorem wpR_out {m : Option (R α)} {Q : α → Sto → Prop} (h : wpR Q (fun _ _ => False) m) : ∃ a S, m = some (.ok a S) ∧ Q a S := by
  match m, h with
  | some (.ok a S), h => exact ⟨a, S, rfl, h⟩
  | some (.ex _ _), h => exact h.elim
/-- the one end -/
theorem wpR_is {m : Option (R α)} {a : α} (h : wpR (fun a' S' => a' = a ∧ S' = S) (fun _ _ => False) m) : m = some (.ok a S) := by
  obtain ⟨a', S', e, rfl, rfl⟩ := wpR_out h
  exact e
theorem wpR_isX {m : Option (R α)} {c : Nat} (h : wpR (fun _ _ => False) (fun c' S' => c' = c ∧ S' = S) m) : m = some (.ex c S) := by
  match m, h with
  | some (.ok _ _), h => exact h.elim
  | some (.ex c' S'), h => obtain ⟨rfl, rfl⟩ := h; rfl
/-! ### calls -/
theorem wp_call {fns : List Fn} {isa : Nat → Ty → Bool} {n f : Nat} {ds : List D} {np ns : Nat} {body : List PS} (hf : fns[f]? = some ⟨np, ns, body⟩) (hl : ds.length = np)
    (h : wpB ⟨callN fns isa n, isa⟩ body (fun _ S' => wpR Q X (leave S.length .non S')) (fun d S' => wpR Q X (leave S.length d S')) (fun c S' => X c (if closed S.length S' then S'.take S.length else S')) (startE ns (settles ds S).1) (settles ds S).2) : wpR Q X (callN fns isa (n + 1) f ds S) := by
  rw [call_eq hf hl]
  unfold wpB at h
  match execB ⟨callN fns isa n, isa⟩ body (startE ns (settles ds S).1) (settles ds S).2, h with
  | some (.nx _, _), h => exact h
  | some (.ret _, _), h => exact h
  | some (.ex _, _), h => exact h
theorem takeX {l : Sto} (hc : Cl S) : (if closed S.length (S ++ l) = true then (S ++ l).take S.length else S ++ l) = S := by rw [if_pos (closed_of hc), List.take_left]
theorem takeX0 (hc : Cl S) : (if closed S.length S = true then S.take S.length else S) = S := by
  have := takeX (l := []) hc
  simpa using this
end
theorem settle_int {i : Int} {S : Sto} : settle (.int i) S = (.int i, S) := rfl
theorem settle_str {i : Str} {S : Sto} : settle (.str i) S = (.str i, S) := rfl
theorem settle_bl {i : Bool} {S : Sto} : settle (.bl i) S = (.bl i, S) := rfl
theorem settle_non {S : Sto} : settle .non S = (.non, S) := rfl
theorem settle_ref {i : Nat} {S : Sto} : settle (.ref i) S = (.ref i, S) := rfl
theorem settle_fz {i : List D} {S : Sto} : settle (.fz i) S = (.fz i, S) := rfl
theorem settle_exc {i : Nat} {S : Sto} : settle (.exc i) S = (.exc i, S) := rfl
theorem settle_tup {ds : List D} {S : Sto} : settle (.tup ds) S = (.tup (settles ds S).1, (settles ds S).2) := by rw [settle]
theorem settle_lst {ds : List D} {S : Sto} : settle (.lst ds) S = (.ref (settles ds S).2.length, (settles ds S).2 ++ [.lst (settles ds S).1]) := by rw [settle]
theorem settle_dct {ks ds : List D} {S : Sto} : settle (.dct ks ds) S = (.ref (settles ds S).2.length, (settles ds S).2 ++ [.dct ks (settles ds S).1]) := by rw [settle]
theorem settles_nil {S : Sto} : settles [] S = ([], S) := by rw [settles]
theorem settles_cons {d : D} {ds : List D} {S : Sto} : settles (d :: ds) S = ((settle d S).1 :: (settles ds (settle d S).2).1, (settles ds (settle d S).2).2) := by rw [settles]
end Ev
end
section
set_option Elab.async false
set_option linter.all false
set_option maxRecDepth 100000
namespace Ev
open PySem
mutual
theorem settle_settled : ∀ (d : D) (S : Sto), d.settled = true → settle d S = (d, S)
  | .non, _, _ => rfl
  | .bl _, _, _ => rfl
  | .int _, _, _ => rfl
  | .str _, _, _ => rfl
  | .fz _, _, _ => rfl
  | .ref _, _, _ => rfl
  | .exc _, _, _ => rfl
  | .tup ds, S, h => by
    unfold D.settled at h
    unfold settle
    rw [settles_settled ds S h]
  | .lst _, _, h => by cases h
  | .dct _ _, _, h => by cases h
  | .nd _ _, _, h => by cases h
theorem settles_settled : ∀ (ds : List D) (S : Sto), settleds ds = true → settles ds S = (ds, S)
  | [], _, _ => rfl
  | d :: ds, S, h => by
    unfold settleds at h
    obtain ⟨h1, h2⟩ := Bool.and_eq_true_iff.mp h
    unfold settles
    rw [settle_settled d S h1]
    simp only
    rw [settles_settled ds S h2]
end
mutual
theorem pure_settled : ∀ d : D, d.pure = true → d.settled = true
  | .non, _ => rfl
  | .bl _, _ => rfl
  | .int _, _ => rfl
  | .str _, _ => rfl
  | .tup ds, h => by unfold D.pure at h; unfold D.settled; exact pures_settled ds h
  | .lst _, h => by cases h
  | .dct _ _, h => by cases h
  | .nd _ _, h => by cases h
  | .fz _, h => by cases h
  | .ref _, h => by cases h
  | .exc _, h => by cases h
theorem pures_settled : ∀ ds : List D, pures ds = true → settleds ds = true
  | [], _ => rfl
  | d :: ds, h => by
    unfold pures at h
    obtain ⟨h1, h2⟩ := Bool.and_eq_true_iff.mp h
    unfold settleds
    rw [pure_settled d h1, pures_settled ds h2]; rfl
end
theorem settleds_all : ∀ ds : List D, settleds ds = ds.all D.settled
  | [] => rfl
  | d :: ds => by unfold settleds; rw [List.all_cons, settleds_all ds]
theorem settleds_mem {ds : List D} (h : settleds ds = true) {d : D} (m : d ∈ ds) : d.settled = true := by
  rw [settleds_all, List.all_eq_true] at h; exact h d m
theorem pures_mem {ds : List D} (h : pures ds = true) {d : D} (m : d ∈ ds) : d.pure = true := by
  rw [pures_all, List.all_eq_true] at h; exact h d m
theorem pures_of {ds : List D} (h : ∀ d ∈ ds, d.pure = true) : pures ds = true := by
  rw [pures_all, List.all_eq_true]; exact h
theorem pure_tup {ds : List D} : (D.tup ds).pure = pures ds := by rw [D.pure]
section
variable {α : Type} {g : G} {ρ : Env} {S : Sto} {Q : D → Sto → Prop} {X : Nat → Sto → Prop} {Qn : Env → Sto → Prop}
theorem guard_st {β : Type} {lk : Option (Nat × List D)} {x : Option β} (h : stays lk S) : guardS lk S x = x := by unfold guardS; exact if_pos h
theorem wp_forL {lk : Option (Nat × List D)} {f : D → Env → Sto → Option (Fl × Sto)} : ∀ (its : List D) (P : Nat → Env → Sto → Prop), (∀ k ρ S, P k ρ S → stays lk S) → (∀ k d ρ S, its[k]? = some d → P k ρ S → wpF (fun ρ S => P (k + 1) ρ S) Q X (f d ρ S)) → (∀ ρ S, P its.length ρ S → Qn ρ S) → ∀ ρ S, P 0 ρ S → wpF Qn Q X (forL lk f its ρ S)
  | [], P, hk, h, fin, ρ, S, p => by
    rw [forL, guard_st (hk _ _ _ p)]
    exact fin ρ S p
  | d :: its, P, hk, h, fin, ρ, S, p => by
    rw [forL, guard_st (hk _ _ _ p), wpF_seq]
    exact wpF_mono (h 0 d ρ S rfl p) (fun ρ1 S1 p1 => wp_forL its (fun k => P (k + 1)) (fun k ρ S p => hk _ _ _ p) (fun k d ρ S hk => h (k + 1) d ρ S (by simpa using hk)) fin ρ1 S1 p1) (fun _ _ z => z) fun _ _ z => z
/-- for x in .. : P k is the state ahead of the k-th item -/
structure ForOk (g : G) (i : Nat) (k : ItK) (body : List PS) (Qn : Env → Sto → Prop) (Q : D → Sto → Prop) (X : Nat → Sto → Prop) (P : Nat → Env → Sto → Prop) (ρ : Env) (ds : List D) (S1 : Dep (g, i, k, body, Qn, Q, X, P, ρ) Sto) : Prop where
  ok : ∃ its lk, itemsOf S1 k ds = some (its, lk) ∧ settleds its = true ∧ P 0 ρ S1 ∧ (∀ k ρ S, P k ρ S → stays lk S) ∧ (∀ k d ρ S, its[k]? = some d → P k ρ S → wpB g body (fun ρ S => P (k + 1) ρ S) Q X (ρ.set i (some d)) S) ∧ ∀ ρ S, P its.length ρ S → Qn ρ S
theorem wp_for (P : Nat → Env → Sto → Prop) {i : Nat} {k : ItK} {es : List PE} {body : List PS} (h : wpEs g es (fun ds S1 => ForOk g i k body Qn Q X P ρ ds S1) X ρ S) :
    wpS g (.for_ (.nm i) k es body) Qn Q X ρ S := by
  unfold wpS
  rw [execS, wpF_bnd]
  refine wpR_mono h (fun ds S1 ⟨its, lk, e, hs, h0, hk, step, fin⟩ => ?_) fun _ _ z => z
  rw [e]
  refine wp_forL its P hk (fun k d ρ S hd p => ?_) fin ρ S1 h0
  show wpF _ Q X (execB g body (ρ.set i (some (settle d S).1)) (settle d S).2)
  rw [settle_settled d S (settleds_mem hs (List.mem_of_getElem? hd))]
  exact step k d ρ S hd p
theorem wp_compL {lk : Option (Nat × List D)} {f : D → Sto → Option (R (Option D))} : ∀ (its acc : List D) (P : Nat → List D → Sto → Prop), (∀ k vs S, P k vs S → stays lk S) → (∀ k d vs S, its[k]? = some d → P k vs S → wpR (fun o S => P (k + 1) (vs ++ o.toList) S) (fun _ _ => False) (f d S)) → ∀ S, P 0 acc S → wpO (fun r => P its.length (acc ++ r.1) r.2) (compL lk f its S)
  | [], acc, P, hk, h, S, p => by
    rw [compL, guard_st (hk _ _ _ p)]
    show P 0 (acc ++ []) S
    rw [List.append_nil]; exact p
  | d :: its, acc, P, hk, h, S, p => by
    rw [compL, guard_st (hk _ _ _ p)]
    have h1 := h 0 d acc S rfl p
    cases e : f d S with
    | none => rw [e] at h1; exact h1
    | some r0 =>
      cases r0 with
      | ex c S1 => rw [e] at h1; exact h1.elim
      | ok o S1 =>
        rw [e] at h1
        rw [bndN_ok, wpO_map]
        have := wp_compL its (acc ++ o.toList) (fun k => P (k + 1)) (fun k vs S p => hk _ _ _ p) (fun k d vs S hk => h (k + 1) d vs S (by simpa using hk)) S1 h1
        cases hq : compL lk f its S1 with
        | none => rw [hq] at this; exact this
        | some r =>
          rw [hq] at this
          have this' : P (its.length + 1) (acc ++ o.toList ++ r.1) r.2 := this
          cases o with
          | none =>
            show P (its.length + 1) (acc ++ r.1) r.2
            simpa using this'
          | some v =>
            show P (its.length + 1) (acc ++ (v :: r.1)) r.2
            simpa using this'
def wpIfs (g : G) (es : List PE) (Q : Bool → Sto → Prop) (ρ : Dep (g, es, Q) Env) (S : Dep (g, es, Q) Sto) : Prop := wpR Q (fun _ _ => False) (evalIfs g es ρ S)
theorem wpIfs_nil {Q : Bool → Sto → Prop} : wpIfs g [] Q ρ S = Q true S := by unfold wpIfs; rw [evalIfs]; rfl
theorem wpIfs_one {c : PE} {Q : Bool → Sto → Prop} : wpIfs g [c] Q ρ S = wpE g c (fun d S => wpO (fun b => Q b S) (truth S d)) (fun _ _ => False) ρ S := by
  unfold wpIfs wpE
  rw [evalIfs, wpR_tests]
  refine wpR_cq fun d S => wpO_cq fun b => ?_
  cases b <;> simp [evalIfs, wpR]
/-- [elt for x in .. if ..]: P k vs is the state ahead of the k-th item -/
structure CompOk (g : G) (i : Nat) (k : ItK) (ifs : List PE) (elt : PE) (Q : D → Sto → Prop) (P : Nat → List D → Sto → Prop) (ρ : Env) (ds : List D) (S1 : Dep (g, i, k, ifs, elt, Q, P, ρ) Sto) : Prop where
  ok : ∃ its lk, itemsOf S1 k ds = some (its, lk) ∧ settleds its = true ∧ P 0 [] S1 ∧ (∀ k vs S, P k vs S → stays lk S) ∧
      (∀ k d vs S, its[k]? = some d → P k vs S → wpIfs g ifs (fun b S => wpT (wpE g elt (fun v S => P (k + 1) (vs ++ [v]) S) (fun _ _ => False) (ρ.set i (some d)) S) (P (k + 1) vs S) b) (ρ.set i (some d)) S) ∧ ∀ vs S, P its.length vs S → Q (.lst vs) S
theorem wp_comp (P : Nat → List D → Sto → Prop) {i : Nat} {k : ItK} {es ifs : List PE} {elt : PE}
    (h : wpEs g es (fun ds S1 => CompOk g i k ifs elt Q P ρ ds S1) X ρ S) : wpE g (.comp (.nm i) k es ifs elt) Q X ρ S := by
  unfold wpE
  rw [evalE, wpR_bnd]
  refine wpR_mono h (fun ds S1 ⟨its, lk, e, hs, h0, hk, step, fin⟩ => ?_) fun _ _ z => z
  rw [e]
  simp only
  have := wp_compL (f := fun d S => match setTg (.nm i) d ρ S with
        | some (ρ', S) => bnd (evalIfs g ifs ρ' S) fun b S => if b then bnd (evalE g elt ρ' S) fun x S => some (.ok (some x) S) else some (.ok none S)
        | none => none) its [] P hk (fun k d vs S hd p => by
    show wpR _ _ (bnd (evalIfs g ifs (ρ.set i (some (settle d S).1)) (settle d S).2) _)
    rw [settle_settled d S (settleds_mem hs (List.mem_of_getElem? hd)), wpR_bnd]
    refine wpR_mono (step k d vs S hd p) (fun b S2 q => ?_) fun _ _ z => z
    cases b with
    | false =>
      rw [wpT_false] at q
      show P (k + 1) (vs ++ []) S2
      rw [List.append_nil]; exact q
    | true =>
      rw [wpT_true] at q
      show wpR _ _ (bnd (evalE g elt (ρ.set i (some d)) S2) _)
      rw [wpR_bnd]
      exact q) S1 h0
  match hq : compL lk (fun d S => match setTg (.nm i) d ρ S with
        | some (ρ', S) => bnd (evalIfs g ifs ρ' S) fun b S => if b then bnd (evalE g elt ρ' S) fun x S => some (.ok (some x) S) else some (.ok none S)
        | none => none) its S1, this with
  | some r, this => exact fin _ _ this
/-- .. where an error is handed on -/
theorem wp_compLX {lk : Option (Nat × List D)} {f : D → Sto → Option (R (Option D))} : ∀ (its acc : List D) (P : Nat → List D → Sto → Prop), (∀ k vs S, P k vs S → stays lk S) → (∀ k d vs S, its[k]? = some d → P k vs S → wpR (fun o S => P (k + 1) (vs ++ o.toList) S) X (f d S)) → ∀ S, P 0 acc S → wpR (fun r S => P its.length (acc ++ r) S) X (compLX lk f its S)
  | [], acc, P, hk, h, S, p => by
    rw [compLX, guard_st (hk _ _ _ p)]
    show P 0 (acc ++ []) S
    rw [List.append_nil]; exact p
  | d :: its, acc, P, hk, h, S, p => by
    rw [compLX, guard_st (hk _ _ _ p), wpR_bnd]
    refine wpR_mono (h 0 d acc S rfl p) (fun o S1 h1 => ?_) fun _ _ z => z
    rw [wpR_bnd]
    refine wpR_mono (wp_compLX its (acc ++ o.toList) (fun k => P (k + 1)) (fun k vs S p => hk _ _ _ p) (fun k d vs S hk => h (k + 1) d vs S (by simpa using hk)) S1 h1) (fun r S2 h2 => ?_) fun _ _ z => z
    cases o with
    | none =>
      show P (its.length + 1) (acc ++ r) S2
      simpa using h2
    | some v =>
      show P (its.length + 1) (acc ++ (v :: r)) S2
      simpa using h2
structure CompXOk (g : G) (i : Nat) (k : ItK) (ifs : List PE) (elt : PE) (Q : D → Sto → Prop) (X : Nat → Sto → Prop) (P : Nat → List D → Sto → Prop) (ρ : Env) (ds : List D) (S1 : Dep (g, i, k, ifs, elt, Q, X, P, ρ) Sto) : Prop where
  ok : ∃ its lk, itemsOf S1 k ds = some (its, lk) ∧ settleds its = true ∧ P 0 [] S1 ∧ (∀ k vs S, P k vs S → stays lk S) ∧
      (∀ k d vs S, its[k]? = some d → P k vs S → wpIfs g ifs (fun b S => wpT (wpE g elt (fun v S => P (k + 1) (vs ++ [v]) S) X (ρ.set i (some d)) S) (P (k + 1) vs S) b) (ρ.set i (some d)) S) ∧ ∀ vs S, P its.length vs S → Q (.lst vs) S
theorem wp_compX (P : Nat → List D → Sto → Prop) {i : Nat} {k : ItK} {es ifs : List PE} {elt : PE}
    (h : wpEs g es (fun ds S1 => CompXOk g i k ifs elt Q X P ρ ds S1) X ρ S) : wpE g (.compX (.nm i) k es ifs elt) Q X ρ S := by
  unfold wpE
  rw [evalE, wpR_bnd]
  refine wpR_mono h (fun ds S1 ⟨its, lk, e, hs, h0, hk, step, fin⟩ => ?_) fun _ _ z => z
  rw [e]
  simp only
  rw [wpR_bnd]
  refine wpR_mono (wp_compLX its [] P hk (fun k d vs S hd p => ?_) S1 h0) (fun r S2 z => fin _ _ z) fun _ _ z => z
  show wpR _ _ (bnd (evalIfs g ifs (ρ.set i (some (settle d S).1)) (settle d S).2) _)
  rw [settle_settled d S (settleds_mem hs (List.mem_of_getElem? hd)), wpR_bnd]
  refine wpR_mono (step k d vs S hd p) (fun b S2 q => ?_) fun _ _ z => z.elim
  cases b with
  | false =>
    rw [wpT_false] at q
    show P (k + 1) (vs ++ []) S2
    rw [List.append_nil]; exact q
  | true =>
    rw [wpT_true] at q
    show wpR _ _ (bnd (evalE g elt (ρ.set i (some d)) S2) _)
    rw [wpR_bnd]
    exact q
theorem wp_while (P : Nat → Env → Sto → Prop) {c : PE} {body : List PS}
    (step : ∀ m ρ S, P m ρ S → wpE g c (fun d S1 => wpO (fun t => wpT (wpB g body (fun ρ2 S2 => ∃ m2, m2 < m ∧ P m2 ρ2 S2) Q X ρ S1) (Qn ρ S1) t) (truth S1 d)) X ρ S) :
    ∀ m ρ S, P m ρ S → wpS g (.while_ c body) Qn Q X ρ S := by
  intro m
  induction m using Nat.strongRecOn with
  | ind m ih =>
    intro ρ S p
    have h := step m ρ S p
    unfold wpS
    rw [execS, while_eq]
    unfold wpE at h
    cases he : evalE g c ρ S with
    | none => rw [he] at h; exact h.elim
    | some r0 =>
      rw [he] at h
      cases r0 with
      | ex x S1 => exact h
      | ok d S1 =>
        have h' : wpO (fun t => wpT (wpB g body (fun ρ2 S2 => ∃ m2, m2 < m ∧ P m2 ρ2 S2) Q X ρ S1) (Qn ρ S1) t) (truth S1 d) := h
        cases ht : truth S1 d with
        | none => rw [ht] at h'; exact h'.elim
        | some t =>
          rw [ht, wpO_some] at h'
          cases t with
          | false =>
            simp only [ht]
            exact h'.2 rfl
          | true =>
            simp only [ht]
            have h2 := h'.1 rfl
            unfold wpB at h2
            cases hb : execB g body ρ S1 with
            | none => rw [hb] at h2; exact h2.elim
            | some q =>
              obtain ⟨fl, S2⟩ := q
              rw [hb] at h2
              cases fl with
              | ret d2 => exact h2
              | ex x => exact h2
              | nx ρ2 =>
                obtain ⟨m2, hm, p2⟩ := h2
                have := ih m2 hm ρ2 S2 p2
                unfold wpS at this
                rw [execS] at this
                exact this
end
theorem stays_none {S : Sto} : stays none S := trivial
end Ev
end
section
set_option Elab.async false
set_option linter.all false
set_option maxRecDepth 100000
namespace Ev
open PySem
section
variable {isa : Nat → Ty → Bool} {S : Sto} {A B : Prop}
theorem isTys_nil {d : D} : isTys isa S d [] = some false := rfl
theorem isTys_c {d : D} {t : Ty} {ts : List Ty} : isTys isa S d (t :: ts) = (isTy isa S t d).bind fun b => if b = true then some true else isTys isa S d ts := by
  conv => lhs; unfold isTys
  cases isTy isa S t d with
  | none => rfl
  | some b => cases b <;> rfl
theorem isTy_exv {c : Nat} : isTy isa S .valueError (.exc c) = some (isa c .valueError) := rfl
theorem isTy_exc {c k : Nat} : isTy isa S (.cls k) (.exc c) = some (isa c (.cls k)) := rfl
theorem isTy_non_int : isTy isa S .int .non = some false := rfl
theorem isTy_non_str : isTy isa S .str .non = some false := rfl
theorem isTy_non_tuple : isTy isa S .tuple .non = some false := rfl
theorem isTy_non_list : isTy isa S .list .non = some false := rfl
theorem isTy_non_dict : isTy isa S .dict .non = some false := rfl
theorem isTy_non_bool : isTy isa S .bool .non = some false := rfl
theorem isTy_bl_int {x : Bool} : isTy isa S .int (.bl x) = some true := rfl
theorem isTy_bl_str {x : Bool} : isTy isa S .str (.bl x) = some false := rfl
theorem isTy_bl_tuple {x : Bool} : isTy isa S .tuple (.bl x) = some false := rfl
theorem isTy_bl_list {x : Bool} : isTy isa S .list (.bl x) = some false := rfl
theorem isTy_bl_dict {x : Bool} : isTy isa S .dict (.bl x) = some false := rfl
theorem isTy_bl_bool {x : Bool} : isTy isa S .bool (.bl x) = some true := rfl
theorem isTy_int_int {x : Int} : isTy isa S .int (.int x) = some true := rfl
theorem isTy_int_str {x : Int} : isTy isa S .str (.int x) = some false := rfl
theorem isTy_int_tuple {x : Int} : isTy isa S .tuple (.int x) = some false := rfl
theorem isTy_int_list {x : Int} : isTy isa S .list (.int x) = some false := rfl
theorem isTy_int_dict {x : Int} : isTy isa S .dict (.int x) = some false := rfl
theorem isTy_int_bool {x : Int} : isTy isa S .bool (.int x) = some false := rfl
theorem isTy_str_int {x : Str} : isTy isa S .int (.str x) = some false := rfl
theorem isTy_str_str {x : Str} : isTy isa S .str (.str x) = some true := rfl
theorem isTy_str_tuple {x : Str} : isTy isa S .tuple (.str x) = some false := rfl
theorem isTy_str_list {x : Str} : isTy isa S .list (.str x) = some false := rfl
theorem isTy_str_dict {x : Str} : isTy isa S .dict (.str x) = some false := rfl
theorem isTy_str_bool {x : Str} : isTy isa S .bool (.str x) = some false := rfl
theorem isTy_tup_int {x : List D} : isTy isa S .int (.tup x) = some false := rfl
theorem isTy_tup_str {x : List D} : isTy isa S .str (.tup x) = some false := rfl
theorem isTy_tup_tuple {x : List D} : isTy isa S .tuple (.tup x) = some true := rfl
theorem isTy_tup_list {x : List D} : isTy isa S .list (.tup x) = some false := rfl
theorem isTy_tup_dict {x : List D} : isTy isa S .dict (.tup x) = some false := rfl
theorem isTy_tup_bool {x : List D} : isTy isa S .bool (.tup x) = some false := rfl
theorem isTy_lst_int {x : List D} : isTy isa S .int (.lst x) = some false := rfl
theorem isTy_lst_str {x : List D} : isTy isa S .str (.lst x) = some false := rfl
theorem isTy_lst_tuple {x : List D} : isTy isa S .tuple (.lst x) = some false := rfl
theorem isTy_lst_list {x : List D} : isTy isa S .list (.lst x) = some true := rfl
theorem isTy_lst_dict {x : List D} : isTy isa S .dict (.lst x) = some false := rfl
theorem isTy_lst_bool {x : List D} : isTy isa S .bool (.lst x) = some false := rfl
theorem isTy_fz_int {x : List D} : isTy isa S .int (.fz x) = some false := rfl
theorem isTy_fz_str {x : List D} : isTy isa S .str (.fz x) = some false := rfl
theorem isTy_fz_tuple {x : List D} : isTy isa S .tuple (.fz x) = some false := rfl
theorem isTy_fz_list {x : List D} : isTy isa S .list (.fz x) = some true := rfl
theorem isTy_fz_dict {x : List D} : isTy isa S .dict (.fz x) = some false := rfl
theorem isTy_fz_bool {x : List D} : isTy isa S .bool (.fz x) = some false := rfl
theorem isTy_dct_int {x y : List D} : isTy isa S .int (.dct x y) = some false := rfl
theorem isTy_dct_str {x y : List D} : isTy isa S .str (.dct x y) = some false := rfl
theorem isTy_dct_tuple {x y : List D} : isTy isa S .tuple (.dct x y) = some false := rfl
theorem isTy_dct_list {x y : List D} : isTy isa S .list (.dct x y) = some false := rfl
theorem isTy_dct_dict {x y : List D} : isTy isa S .dict (.dct x y) = some true := rfl
theorem isTy_dct_bool {x y : List D} : isTy isa S .bool (.dct x y) = some false := rfl
theorem isTy_rl_int {n : Nat} {x : List D} (h : S[n]? = some (.lst x)) : isTy isa S .int (.ref n) = some false := by
  simp only [isTy, vtOf, h]; rfl
theorem isTy_rl_str {n : Nat} {x : List D} (h : S[n]? = some (.lst x)) : isTy isa S .str (.ref n) = some false := by
  simp only [isTy, vtOf, h]; rfl
theorem isTy_rl_tuple {n : Nat} {x : List D} (h : S[n]? = some (.lst x)) : isTy isa S .tuple (.ref n) = some false := by
  simp only [isTy, vtOf, h]; rfl
theorem isTy_rl_list {n : Nat} {x : List D} (h : S[n]? = some (.lst x)) : isTy isa S .list (.ref n) = some true := by
  simp only [isTy, vtOf, h]; rfl
theorem isTy_rl_dict {n : Nat} {x : List D} (h : S[n]? = some (.lst x)) : isTy isa S .dict (.ref n) = some false := by
  simp only [isTy, vtOf, h]; rfl
theorem isTy_rl_bool {n : Nat} {x : List D} (h : S[n]? = some (.lst x)) : isTy isa S .bool (.ref n) = some false := by
  simp only [isTy, vtOf, h]; rfl
theorem isC_b_non {ng b : Bool} : isC ng (.bl b) .non = some ng := rfl
theorem isC_n_bl {ng : Bool} {x : Bool} : isC ng .non (.bl x) = some ng := rfl
theorem isC_n_int {ng : Bool} {x : Int} : isC ng .non (.int x) = some ng := rfl
theorem isC_b_int {ng b : Bool} {x : Int} : isC ng (.bl b) (.int x) = some ng := rfl
theorem isC_n_str {ng : Bool} {x : Str} : isC ng .non (.str x) = some ng := rfl
theorem isC_b_str {ng b : Bool} {x : Str} : isC ng (.bl b) (.str x) = some ng := rfl
theorem isC_n_tup {ng : Bool} {x : List D} : isC ng .non (.tup x) = some ng := rfl
theorem isC_b_tup {ng b : Bool} {x : List D} : isC ng (.bl b) (.tup x) = some ng := rfl
theorem isC_n_lst {ng : Bool} {x : List D} : isC ng .non (.lst x) = some ng := rfl
theorem isC_b_lst {ng b : Bool} {x : List D} : isC ng (.bl b) (.lst x) = some ng := rfl
theorem isC_n_fz {ng : Bool} {x : List D} : isC ng .non (.fz x) = some ng := rfl
theorem isC_b_fz {ng b : Bool} {x : List D} : isC ng (.bl b) (.fz x) = some ng := rfl
theorem isC_n_dct {ng : Bool} {x y : List D} : isC ng .non (.dct x y) = some ng := rfl
theorem isC_b_dct {ng b : Bool} {x y : List D} : isC ng (.bl b) (.dct x y) = some ng := rfl
theorem isC_n_ref {ng : Bool} {x : Nat} : isC ng .non (.ref x) = some ng := rfl
theorem isC_b_ref {ng b : Bool} {x : Nat} : isC ng (.bl b) (.ref x) = some ng := rfl
theorem isC_n_exc {ng : Bool} {x : Nat} : isC ng .non (.exc x) = some ng := rfl
theorem isC_b_exc {ng b : Bool} {x : Nat} : isC ng (.bl b) (.exc x) = some ng := rfl
theorem isC_n_non {ng : Bool} : isC ng .non .non = some (!ng) := rfl
theorem isC_true_true_true : isC true (.bl true) (.bl true) = some false := rfl
theorem isC_true_true_false : isC true (.bl true) (.bl false) = some true := rfl
theorem isC_true_false_true : isC true (.bl false) (.bl true) = some true := rfl
theorem isC_true_false_false : isC true (.bl false) (.bl false) = some false := rfl
theorem isC_false_true_true : isC false (.bl true) (.bl true) = some true := rfl
theorem isC_false_true_false : isC false (.bl true) (.bl false) = some false := rfl
theorem isC_false_false_true : isC false (.bl false) (.bl true) = some false := rfl
theorem isC_false_false_false : isC false (.bl false) (.bl false) = some true := rfl
theorem mdl {i j : Int} (h : 0 < j) : binE S .mod (.int i) (.int j) = some (.int (i.fmod j)) := bin_mod (by omega)
theorem fdl {i j : Int} (h : 0 < j) (h1 : j < 18446744073709551616) : binE S .fdiv (.int i) (.int j) = some (.int (i.fdiv j)) := bin_fdiv (by
  have h2 : j.natAbs < 2 ^ 64 := by omega
  have h3 : j.natAbs ≠ 0 := by omega
  have h4 := (Nat.log2_lt h3).mpr h2
  unfold divOk
  rw [decide_eq_true (show j ≠ 0 by omega), decide_eq_true (show j.natAbs.log2 < 9000 by omega)]; rfl)
theorem min2 {i j : Int} : bltE S .min2 [.int i, .int j] = some (.int (if j < i then j else i)) := rfl
theorem max2 {i j : Int} : bltE S .max2 [.int i, .int j] = some (.int (if j > i then j else i)) := rfl
theorem pu_non : D.non.pure = true := rfl
theorem pu_bl {x : Bool} : (D.bl x).pure = true := rfl
theorem pu_int {x : Int} : (D.int x).pure = true := rfl
theorem pu_str {x : Str} : (D.str x).pure = true := rfl
theorem pu_nil : pures [] = true := rfl
theorem pu_cons {d : D} {ds : List D} : pures (d :: ds) = (d.pure && pures ds) := by rw [pures]
theorem wpT_i {b : Bool} (h1 : b = true → A) (h2 : b = false → B) : wpT A B b := ⟨h1, h2⟩
theorem wpT_d {c : Prop} [Decidable c] (h1 : c → A) (h2 : ¬ c → B) : wpT A B (decide c) := ⟨fun h => h1 (of_decide_eq_true h), fun h => h2 (of_decide_eq_false h)⟩
end
end Ev
end
section
set_option Elab.async false
set_option linter.all false
set_option maxRecDepth 100000
set_option maxHeartbeats 2000000
namespace Ev
variable {n : Nat} {S : Sto}
theorem in_tup {a : D} {ds : List D} (ha : a.pure = true) (hd : a.depth ≤ 150) (hp : pures ds = true) : inE S a (.tup ds) = some (ds.any fun z => z.eqv a) := by
  show inL S a ds = _
  unfold inL resL
  rw [res_pure ha, if_pos hp]
  have : min (depths ds) a.depth ≤ 150 := by omega
  simp only [if_pos this]
theorem in_str {x y : PySem.Str} : inE S (.str x) (.str y) = some (inStr x y) := rfl
theorem items_tup {ds : List D} : itemsOf S .val [.tup ds] = some (ds, none) := rfl
theorem items_lst {ds : List D} : itemsOf S .val [.lst ds] = some (ds, none) := rfl
theorem items_fz {ds : List D} : itemsOf S .val [.fz ds] = some (ds, none) := rfl
theorem items_str {x : PySem.Str} (h : x.length ≤ 16777216) : itemsOf S .val [.str x] = some (x.cps.toList.map fun c => .str ⟨#[c]⟩, none) := if_pos h
theorem items_ref {k : Nat} {ds : List D} (h : S[k]? = some (.lst ds)) : itemsOf S .val [.ref k] = some (ds, some (k, ds)) := by
  show (match S[k]? with | some (.lst ds) => some (ds, some (k, ds)) | _ => none) = _
  rw [h]
theorem len_str {x : PySem.Str} (h : x.length ≤ 16777216) : bltE S .len [.str x] = some (.int x.length) := if_pos h
def dN (K : List PySem.Str) : D := .dct (K.map .str) (K.map fun _ => .bl true)
theorem find_str (nm : PySem.Str) : ∀ K : List PySem.Str, Ev.find (K.map .str) (.str nm) = K.findIdx? fun x => decide (x = nm)
  | [] => rfl
  | x :: K => by
    have ih := find_str nm K
    unfold Ev.find at ih ⊢
    rw [List.map_cons, List.findIdx?_cons, List.findIdx?_cons, ih]
    rfl
theorem find_mem (nm : PySem.Str) (K : List PySem.Str) : (Ev.find (K.map .str) (.str nm)).isSome = decide (nm ∈ K) := by
  rw [find_str, List.findIdx?_isSome, Bool.eq_iff_iff]
  simp
theorem in_dN {i : Nat} {K : List PySem.Str} {nm : PySem.Str} (hS : S[i]? = some (dN K)) : inE S (.str nm) (.ref i) = some (decide (nm ∈ K)) := by
  show (match Ev.seqOf S (.ref i) with | some ds => inL S (.str nm) ds | none => match Ev.dictOf S (.ref i) with | some (ks, _) => if keyOk (.str nm) then some (Ev.find ks (.str nm)).isSome else none | none => none) = _
  rw [seqOf_ref, listOf_refd hS, dictOf_ref hS]
  show (if keyOk (.str nm) then some (Ev.find (K.map .str) (.str nm)).isSome else none) = _
  rw [find_mem]; rfl
theorem put_new {K : List PySem.Str} {nm : PySem.Str} (h : nm ∉ K) : Ev.putK (K.map .str) (K.map fun _ => .bl true) (.str nm) (.bl true) = ((K ++ [nm]).map .str, (K ++ [nm]).map fun _ => .bl true) := by
  unfold Ev.putK
  have hf : Ev.find (K.map .str) (.str nm) = none := by
    have := find_mem nm K
    cases e : Ev.find (K.map .str) (.str nm) with
    | none => rfl
    | some j => rw [e] at this; simp [h] at this
  rw [hf]
  simp
theorem dN_under (b : Nat) (K : List PySem.Str) : (dN K).under b = true := by
  unfold dN D.under
  rw [unders_all, unders_all]
  simp [D.under]
theorem setI_new {i : Nat} {K : List PySem.Str} {nm : PySem.Str} (hS : S[i]? = some (dN K)) (hl : K.length < 16777216) (h : nm ∉ K) : setItE (.ref i) (.str nm) (.bl true) S = some (S.set i (dN (K ++ [nm]))) := by
  have hk : (keyOk (.str nm) && decide ((K.map D.str).length < 16777216)) = true := by
    rw [List.length_map]
    simp [keyOk]; omega
  unfold dN at hS
  unfold setItE
  simp only [hS, hk, if_true, settle, put_new h, dN]
theorem get_b {k : Nat} {o : D} {l : Sto} (h : S[k]? = some o) : (S ++ l)[k]? = some o := by
  rw [List.getElem?_append_left (List.getElem?_eq_some_iff.mp h).1, h]
theorem leave_under {l : Sto} {d : D} (hc : Cl S) (h : d.under S.length = true) : leave S.length d (S ++ l) = some (.ok d S) := by
  unfold leave
  rw [if_pos (closed_of hc)]
  unfold reify taken
  rw [h]
  simp
theorem fmod_bd {i j : Int} (hj : 0 < j) : 0 ≤ i.fmod j ∧ i.fmod j < j := ⟨Int.fmod_nonneg_of_pos _ hj, Int.fmod_lt_of_pos _ hj⟩
theorem leave_pu0 {l : Sto} {d : D} (hc : Cl S) (h : d.pure = true) : leave S.length d (S ++ l) = some (.ok d S) := leave_pure hc h
theorem ints_pure (xs : List Int) : pures (xs.map D.int) = true := pures_of fun x hx => by
  obtain ⟨i, _, rfl⟩ := List.mem_map.mp hx
  rfl
theorem Cl.lst {ds : List D} (h : Cl S) (hp : pures ds = true) : Cl (S ++ [.lst ds]) := h.app (by
  unfold unders unders D.under
  rw [pures_under _ _ hp]; rfl)
theorem leave_l0 {l : Sto} {ds : List D} (hc : Cl S) (hk : l[0]? = some (.lst ds)) (h : pures ds = true) : leave S.length (.ref S.length) (S ++ l) = some (.ok (.lst ds) S) := leave_lst (k := 0) hc hk h
/-- what a stream has -/
def Str1 (xs : List Int) : Prop := ∀ x ∈ xs, 0 ≤ x ∧ x < 1099511627776
theorem app_lst {k : Nat} {ds : List D} {v : D} (h : S[k]? = some (.lst ds)) (hl : ds.length < 16777216) (hv : v.settled = true) : mthE .append (.ref k) [v] S = some (.non, S.set k (.lst (ds ++ [v]))) := by
  rw [mth_append, h]
  simp only [hl, if_true, settle_settled _ _ hv]
theorem rcv_lst {k : Nat} {ds : List D} (h : S[k]? = some (.lst ds)) : recvOk .append (.ref k) S = true := by rw [rcv_append, listOf_ref h]; rfl
theorem rcv_popl {k : Nat} {ds : List D} (h : S[k]? = some (.lst ds)) : recvOk .pop (.ref k) S = true := by rw [rcv_pop, listOf_ref h]; rfl
theorem items_r1 {j : Int} (h : j ≤ 1000000) (h' : -1000000 ≤ j) : itemsOf S .rng1 [.int j] = some ((List.range j.toNat).map fun (k : Nat) => D.int k, none) := items_rng1 h h'
theorem rng_settled {m : Nat} : settleds ((List.range m).map fun (k : Nat) => D.int k) = true := by
  rw [settleds_all, List.all_eq_true]
  intro x hx
  obtain ⟨k, _, rfl⟩ := List.mem_map.mp hx
  rfl
theorem rng_at {m k : Nat} {d : D} (h : ((List.range m).map fun (k : Nat) => D.int k)[k]? = some d) : d = .int k ∧ k < m := by
  rw [List.getElem?_map] at h
  obtain ⟨j, h1, rfl⟩ := Option.map_eq_some_iff.mp h
  obtain ⟨l1, e2⟩ := List.getElem?_eq_some_iff.mp h1
  rw [List.getElem_range] at e2
  subst e2
  exact ⟨rfl, by simpa using l1⟩
theorem rng_len {m : Nat} : ((List.range m).map fun (k : Nat) => D.int k).length = m := by simp
theorem idx_let {i : Int} (h0 : 0 ≤ i) (h : i < 26) : idxE S (.str "abcdefghijklmnopqrstuvwxyz") (.int i) = some (.str ⟨#[97 + i.toNat]⟩) := by
  obtain ⟨k, rfl⟩ : ∃ k : Nat, i = k := ⟨i.toNat, by omega⟩
  have hk : k < 26 := by omega
  have key : ∀ k : Nat, k < 26 → idxE S (.str "abcdefghijklmnopqrstuvwxyz") (.int (k : Int)) = some (.str ⟨#[97 + k]⟩) := by
    intro k hk
    show (if ("abcdefghijklmnopqrstuvwxyz" : PySem.Str).length ≤ 16777216 then ((Ev.atI ("abcdefghijklmnopqrstuvwxyz" : PySem.Str).cps.toList (k : Int)).map fun c => D.str ⟨#[c]⟩) else none) = _
    rw [if_pos (by decide +kernel), atI_nat]
    have : ∀ j : Fin 26, ("abcdefghijklmnopqrstuvwxyz" : PySem.Str).cps.toList[j.val]? = some (97 + j.val) := by decide +kernel
    rw [this ⟨k, hk⟩]; rfl
  exact key k hk
theorem join3 {a b c : Nat} : mthE .join (.str "") [.lst [.str ⟨#[a]⟩, .str ⟨#[b]⟩, .str ⟨#[c]⟩]] S = some (.str ⟨#[a, b, c]⟩, S) := rfl
theorem sl_str {x : PySem.Str} {j : Int} (h : 0 ≤ j) (hl : x.length ≤ 16777216) : slE S (.str x) .non (.int j) = some (.str ⟨(x.cps.toList.take j.toNat).toArray⟩) := by
  have hj : ¬ j < 0 := by omega
  show (if x.length ≤ 16777216 then some (D.str ⟨(cut x.cps.toList 0 (if j < 0 then (j + (x.length : Int)).toNat else min j.toNat x.length)).toArray⟩) else none) = _
  rw [if_pos hl, if_neg hj]
  unfold cut
  rw [List.drop_zero, Nat.sub_zero]
  have : x.cps.toList.take (min j.toNat x.length) = x.cps.toList.take j.toNat := by
    have hx : x.length = x.cps.toList.length := by simp [PySem.Str.length]
    rw [hx, List.take_eq_take_iff]
    simp
  rw [this]
theorem rep1 {c : Nat} {m : Int} : repS m ⟨#[c]⟩ = ⟨(List.replicate m.toNat c).toArray⟩ := by
  unfold repS
  congr 2
  generalize m.toNat = k
  induction k with
  | zero => rfl
  | succ k ih => rw [List.replicate_succ, List.flatten_cons, ih]; rfl
theorem mul_strB {c : Nat} {m : Int} (h : 0 ≤ m) (h1 : m ≤ 10000) : binE S .mul (.str ⟨#[c]⟩) (.int m) = some (.str ⟨(List.replicate m.toNat c).toArray⟩) := by
  show (if decide (0 ≤ m) && decide (m ≤ 10000) && decide ((⟨#[c]⟩ : PySem.Str).length ≤ 1000) then some (D.str (repS m ⟨#[c]⟩)) else none) = _
  rw [rep1]
  simp [h, h1, PySem.Str.length]
theorem mul_str {c : Nat} {m : Int} (h : 0 ≤ m) (h1 : m ≤ 1000) : binE S .mul (.str ⟨#[c]⟩) (.int m) = some (.str ⟨(List.replicate m.toNat c).toArray⟩) := mul_strB h (by omega)
theorem add_str {x y : PySem.Str} (h : x.length + y.length ≤ 16777216) : binE S .add (.str x) (.str y) = some (.str (x ++ y)) := by
  show (if lenOk (x.length + y.length) then some (D.str (x ++ y)) else none) = _
  exact if_pos (decide_eq_true h)
theorem wpO_atI {α : Type} {xs : List α} {i : Int} {k : α → Prop} (h0 : 0 ≤ i) (h1 : i < xs.length) (h : ∀ x ∈ xs, k x) : wpO k (Ev.atI xs i) := by
  obtain ⟨x, e, m⟩ := atI_ok h0 h1
  rw [e]; exact h x m
/-- a tuple with one list in it is handed back -/
theorem leave_tr {as bs ds : List D} {l : Sto} {k : Nat} (hc : Cl S) (ha : pures as = true) (hb : pures bs = true) (hk : l[k]? = some (.lst ds)) (hd : pures ds = true) :
    leave S.length (.tup (as ++ .ref (S.length + k) :: bs)) (S ++ l) = some (.ok (.tup (as ++ .lst ds :: bs)) S) := by
  unfold leave
  rw [if_pos (closed_of hc)]
  have hu : (D.ref (S.length + k)).under S.length = false := by unfold D.under; exact decide_eq_false (by omega)
  have hut : (D.tup (as ++ .ref (S.length + k) :: bs)).under S.length = false := by
    unfold D.under
    rw [unders_all, List.all_append, List.all_cons, hu]; simp
  have hg : (S ++ l)[S.length + k]? = some (.lst ds) := by rw [get_app]; exact hk
  have h1 : reify (S ++ l) S.length 8 (.ref (S.length + k)) = some (.lst ds) := by
    unfold reify
    simp only [hu, hg, mapM_pure ds hd]
    simp
  have h2 : taken (S ++ l) S.length 8 (.ref (S.length + k)) = [S.length + k] := by
    unfold taken
    simp only [hu, hg, taken_pure ds hd]
    simp
  have h3 : reify (S ++ l) S.length 9 (.tup (as ++ .ref (S.length + k) :: bs)) = some (.tup (as ++ .lst ds :: bs)) := by
    conv => lhs; unfold reify
    simp only [hut, Bool.false_eq_true, if_false]
    rw [List.mapM_append, List.mapM_cons, mapM_pure as ha, mapM_pure bs hb, h1]
    rfl
  have h4 : taken (S ++ l) S.length 9 (.tup (as ++ .ref (S.length + k) :: bs)) = [S.length + k] := by
    conv => lhs; unfold taken
    simp only [hut, Bool.false_eq_true, if_false]
    rw [List.flatMap_append, List.flatMap_cons, taken_pure as ha, taken_pure bs hb, h2]
    rfl
  rw [h3, h4]
  simp
theorem cl_one {ds : List D} (hc : Cl S) (h : pures ds = true) : Cl (S ++ [.lst ds]) := hc.app (by
  unfold unders unders D.under
  rw [pures_under _ _ h]; rfl)
theorem sl_to {k : Nat} {ds : List D} {a : Int} (h : S[k]? = some (.lst ds)) (h0 : 0 ≤ a) : slE S (.ref k) .non (.int a) = some (.lst (ds.take a.toNat)) := by
  have hl := listOf_ref h
  have ha : ¬ a < 0 := by omega
  show (match Ev.listOf S (.ref k) with | some ds => (match sIx ds.length 0 .non, sIx ds.length ds.length (.int a) with | some i, some j => some (D.lst (cut ds i j)) | _, _ => none) | none => none) = _
  rw [hl]
  show some (D.lst (cut ds 0 (if a < 0 then (a + (ds.length : Int)).toNat else min a.toNat ds.length))) = _
  rw [if_neg ha]
  unfold cut
  rw [List.drop_zero, Nat.sub_zero]
  congr 2
  rw [List.take_eq_take_iff]; simp
theorem sl_from {k : Nat} {ds : List D} {a : Int} (h : S[k]? = some (.lst ds)) (h0 : 0 ≤ a) : slE S (.ref k) (.int a) .non = some (.lst (ds.drop a.toNat)) := by
  have hl := listOf_ref h
  have ha : ¬ a < 0 := by omega
  show (match Ev.listOf S (.ref k) with | some ds => (match sIx ds.length 0 (.int a), sIx ds.length ds.length .non with | some i, some j => some (D.lst (cut ds i j)) | _, _ => none) | none => none) = _
  rw [hl]
  show some (D.lst (cut ds (if a < 0 then (a + (ds.length : Int)).toNat else min a.toNat ds.length) ds.length)) = _
  rw [if_neg ha]
  unfold cut
  congr 2
  rw [List.take_of_length_le (by rw [List.length_drop]; omega)]
  by_cases hm : a.toNat ≤ ds.length
  · rw [Nat.min_eq_left hm]
  · rw [Nat.min_eq_right (by omega), List.drop_length, List.drop_eq_nil_of_le (by omega)]
theorem len_ref {k : Nat} {ds : List D} (h : S[k]? = some (.lst ds)) : bltE S .len [.ref k] = some (.int ds.length) := len_seq (by rw [seqOf_ref, listOf_ref h])
theorem idx_ref {k : Nat} {ds : List D} {i : Int} (h : S[k]? = some (.lst ds)) : idxE S (.ref k) (.int i) = Ev.atI ds i := by rw [idx_r, h]
theorem add_l {a b : List D} (h : a.length + b.length ≤ 16777216) : binE S .add (.lst a) (.lst b) = some (.lst (a ++ b)) := by rw [add_ll, if_pos h]
mutual
theorem eqv_refl : ∀ d : D, d.pure = true → d.eqv d = true
  | .non, _ => rfl
  | .bl b, _ => by simp [D.eqv]
  | .int i, _ => by simp [D.eqv]
  | .str s, _ => by simp [D.eqv]
  | .tup ds, h => by rw [pure_tup] at h; rw [D.eqv]; exact eqvs_refl ds h
  | .lst _, h => by cases h
  | .dct _ _, h => by cases h
  | .nd _ _, h => by cases h
  | .fz _, h => by cases h
  | .ref _, h => by cases h
  | .exc _, h => by cases h
theorem eqvs_refl : ∀ ds : List D, pures ds = true → eqvs ds ds = true
  | [], _ => rfl
  | d :: ds, h => by
    rw [pu_cons] at h
    obtain ⟨h1, h2⟩ := Bool.and_eq_true_iff.mp h
    rw [eqvs, eqv_refl d h1, eqvs_refl ds h2]; rfl
end
theorem eq_refl {d : D} (hp : d.pure = true) (hd : d.depth ≤ 150) : eqE S d d = some true := by
  rw [eq_pure hp hp (by omega), eqv_refl d hp]
theorem eq_ll {ds : List D} {a b : D} (ha : res S 60 a = some (.lst ds)) (hb : res S 60 b = some (.lst ds)) (hp : pures ds = true) (hd : depths ds ≤ 149) : eqE S a b = some true := by
  unfold eqE
  rw [ha, hb]
  have : min (D.lst ds).depth (D.lst ds).depth ≤ 150 := by rw [D.depth]; omega
  simp only [if_pos this]
  rw [D.eqv, eqvs_refl ds hp]
theorem depths_le {b : Nat} : ∀ ds : List D, (∀ d ∈ ds, d.depth ≤ b) → depths ds ≤ b
  | [], _ => by simp [depths]
  | d :: ds, h => by
    rw [depths]
    have h1 := h d List.mem_cons_self
    have h2 := depths_le ds fun x m => h x (List.mem_cons_of_mem _ m)
    omega
theorem in_strs {x : PySem.Str} {K : List PySem.Str} : inE S (.str x) (.lst (K.map .str)) = some (decide (x ∈ K)) := by
  show inL S (.str x) (K.map .str) = _
  have hp : pures (K.map D.str) = true := pures_of fun d hd => by
    obtain ⟨s, _, rfl⟩ := List.mem_map.mp hd
    rfl
  unfold inL resL
  rw [res_pure rfl, if_pos hp]
  have : min (depths (K.map D.str)) (D.str x).depth ≤ 150 := by simp [D.depth]
  simp only [if_pos this]
  congr 1
  rw [Bool.eq_iff_iff]
  simp [D.eqv]
theorem res_r {k : Nat} {ds : List D} (h : S[k]? = some (.lst ds)) (hp : pures ds = true) : res S 60 (.ref k) = some (.lst ds) := res_ref h hp
theorem res_l {ds : List D} (hp : pures ds = true) : res S 60 (.lst ds) = some (.lst ds) := res_lst hp
end Ev
namespace Ev
section
variable {g : G} {ρ : Env} {S : Sto} {Q : D → Sto → Prop} {X : Nat → Sto → Prop} {Qn : Env → Sto → Prop}
/-- for x, y in ..: P k is the state ahead of the k-th item -/
structure ForTOk (g : G) (is : List Nat) (k : ItK) (body : List PS) (Qn : Env → Sto → Prop) (Q : D → Sto → Prop) (X : Nat → Sto → Prop) (P : Nat → Env → Sto → Prop) (ρ : Env) (ds : List D) (S1 : Dep (g, is, k, body, Qn, Q, X, P, ρ) Sto) : Prop where
  ok : ∃ its lk, itemsOf S1 k ds = some (its, lk) ∧ (∀ d ∈ its, ∃ es, d = .tup es ∧ settleds es = true) ∧ P 0 ρ S1 ∧ (∀ k ρ S, P k ρ S → stays lk S) ∧
    (∀ k es ρ S, its[k]? = some (.tup es) → P k ρ S → wpO (fun ρ' => wpB g body (fun ρ S => P (k + 1) ρ S) Q X ρ' S) (setNames is es ρ)) ∧ ∀ ρ S, P its.length ρ S → Qn ρ S
theorem wp_forT (P : Nat → Env → Sto → Prop) {is : List Nat} {k : ItK} {es : List PE} {body : List PS} (h : wpEs g es (fun ds S1 => ForTOk g is k body Qn Q X P ρ ds S1) X ρ S) :
    wpS g (.for_ (.tp is) k es body) Qn Q X ρ S := by
  unfold wpS
  rw [execS, wpF_bnd]
  refine wpR_mono h (fun ds S1 ⟨its, lk, e, hs, h0, hk, step, fin⟩ => ?_) fun _ _ z => z
  rw [e]
  refine wp_forL its P hk (fun k d ρ S hd p => ?_) fin ρ S1 h0
  obtain ⟨es, rfl, hes⟩ := hs d (List.mem_of_getElem? hd)
  have h1 := step k es ρ S hd p
  have e2 : setTg (.tp is) (.tup es) ρ S = (setNames is es ρ).map fun ρ' => (ρ', S) := by
    show (setNames is (settles es S).1 ρ).map (fun ρ' => (ρ', (settles es S).2)) = _
    rw [settles_settled es S hes]
  rw [e2]
  cases hq : setNames is es ρ with
  | none => rw [hq] at h1; exact h1.elim
  | some ρ' => rw [hq] at h1; exact h1
end
end Ev
namespace Ev
theorem wpB_app {g : G} {ρ : Env} {S : Sto} {Q : D → Sto → Prop} {X : Nat → Sto → Prop} {Qn : Env → Sto → Prop} {A B : List PS} : wpB g (A ++ B) Qn Q X ρ S = wpB g A (fun ρ S => wpB g B Qn Q X ρ S) Q X ρ S := by
  unfold wpB
  rw [execB_app, wpF_seq]
/-- a text in two parts -/
theorem wp_split {g : G} {ρ : Env} {S : Sto} {Q : D → Sto → Prop} {X : Nat → Sto → Prop} {Qn : Env → Sto → Prop} {ss : List PS} (k : Nat) (P : Env → Sto → Prop) (h1 : wpB g (ss.take k) P Q X ρ S) (h2 : ∀ ρ S, P ρ S → wpB g (ss.drop k) Qn Q X ρ S) : wpB g ss Qn Q X ρ S := by
  rw [← List.take_append_drop k ss, wpB_app]
  exact wpB_mono h1 h2 (fun _ _ z => z) fun _ _ z => z
end Ev
namespace Ev
section
variable {g : G} {ρ : Env} {S l : Sto} {i : Nat} {Q : D → Sto → Prop} {X : Nat → Sto → Prop} {Qn : Env → Sto → Prop}
theorem set_b {o x : D} (h : S[i]? = some o) : (S ++ l).set i x = S.set i x ++ l := List.set_append_left _ _ (List.getElem?_eq_some_iff.mp h).1
theorem get_set {o x : D} (h : S[i]? = some o) : (S.set i x)[i]? = some x := List.getElem?_set_self (List.getElem?_eq_some_iff.mp h).1
theorem set_same {o : D} (h : S[i]? = some o) : S.set i o = S := by
  obtain ⟨hl, e⟩ := List.getElem?_eq_some_iff.mp h
  rw [← e]
  exact List.set_getElem_self hl
theorem ints_under {b : Nat} (xs : List Int) : (D.lst (xs.map .int)).under b = true := by
  unfold D.under
  exact pures_under _ _ (ints_pure xs)
theorem Cl.ints (h : Cl S) (xs : List Int) : Cl (S.set i (.lst (xs.map .int))) := h.set (ints_under xs)
theorem leave_si {t : D} {xs : List Int} (hc : Cl S) (ht : t.pure = true) : leave S.length t (S.set i (.lst (xs.map .int)) ++ l) = some (.ok t (S.set i (.lst (xs.map .int)))) := by
  have := leave_pure (l := l) (hc.ints (i := i) xs) ht
  rwa [List.length_set] at this
theorem leave_si0 {t : D} {xs : List Int} (hc : Cl S) (ht : t.pure = true) : leave S.length t (S.set i (.lst (xs.map .int))) = some (.ok t (S.set i (.lst (xs.map .int)))) := by
  have := leave_si (l := []) (i := i) (xs := xs) hc ht
  simpa using this
/-- number = 0; if xs != []: number = xs.pop() -/
theorem wp_pops {a v : Nat} {xs : List Int} {ss : List PS} (hv : getV ρ v = some (.ref i)) (hv2 : getV (ρ.set a (some (.int 0))) v = some (.ref i)) (hS : S[i]? = some (.lst (xs.map .int)))
    (h : ∀ (x : Int) (xs' : List Int), wpB g ss Qn Q X (ρ.set a (some (.int x))) (S.set i (.lst (xs'.map .int)))) :
    wpB g (.set a (.cst (.int 0)) :: .ife (.cmp .ne (.var v) (.lst [])) [.set a (.mth .pop (.var v) [])] [] :: ss) Qn Q X ρ S := by
  have hne := eq_nil hS (ints_pure xs)
  simp only [wpB_cons, wpS_set, wpE_cst, settle_int, wpS_ife, wpE_cmp, wpE_var, hv2, wpO_some, wpE_lst, wpEs_nil, cmp_ne, hne, Option.map_some, truth_bl, wpT_not]
  rcases List.eq_nil_or_concat xs with rfl | ⟨ys, y, rfl⟩
  · have : ([] : List Int).map D.int = [] := rfl
    rw [this] at hS
    simp only [List.map_nil, List.isEmpty_nil, wpT_true, wpB_nil, Bool.not_true, wpT_false]
    have h0 := h 0 []
    rw [this, set_same hS] at h0
    exact h0
  · have hm : (ys.concat y).map D.int = ys.map D.int ++ [D.int y] := by simp
    rw [hm] at hS ⊢
    have hemp : (ys.map D.int ++ [D.int y]).isEmpty = false := by simp
    have hp : mthE .pop (.ref i) [] S = some (.int y, S.set i (.lst (ys.map .int))) := by
      rw [mth_pop, hS]
      simp
    rw [hemp]
    simp only [Bool.not_false, wpT_true, wpT_false, wpB_cons, wpB_nil, wpS_set, wpE_mth, wpE_var, hv2, wpO_some, rcv_popl hS, if_true, wpEs_nil, hp, settle_int, List.set_set]
    exact h y ys
end
end Ev
end
section
set_option Elab.async false
set_option linter.all false
set_option maxRecDepth 100000
namespace Pg
open Ev
noncomputable def F : Nat → Nat → List D → Sto → Option (R D) := callN fns (Ev.isaX 5)
noncomputable def g0 (n : Nat) : G := ⟨F n, Ev.isaX 5⟩
theorem g0_F {n : Nat} : (g0 n).F = F n := rfl
theorem g0_isa {n : Nat} : (g0 n).isa = Ev.isaX 5 := rfl
section
variable {n : Nat} {S S' : Sto} {Q : D → Sto → Prop} {X : Nat → Sto → Prop}
theorem e_is_int {a0 a1 a2 c0 c1 c2 : D} (hs : settles [a0, a1, a2] S = ([c0, c1, c2], S')) (h : wpB (g0 n) b_is_int (fun _ S' => wpR Q X (leave S.length .non S')) (fun d S' => wpR Q X (leave S.length d S')) (fun c S' => X c (if closed S.length S' then S'.take S.length else S')) [some c0, some c1, some c2] S') : wpR Q X (F (n + 1) 0 [a0, a1, a2] S) := by
  unfold F
  refine wp_call (np := 3) (ns := 3) (body := b_is_int) rfl rfl ?_
  rw [hs]; exact h
theorem e_is_name {a0 c0 : D} (hs : settles [a0] S = ([c0], S')) (h : wpB (g0 n) b_is_name (fun _ S' => wpR Q X (leave S.length .non S')) (fun d S' => wpR Q X (leave S.length d S')) (fun c S' => X c (if closed S.length S' then S'.take S.length else S')) [some c0, none] S') : wpR Q X (F (n + 1) 1 [a0] S) := by
  unfold F
  refine wp_call (np := 1) (ns := 2) (body := b_is_name) rfl rfl ?_
  rw [hs]; exact h
theorem e_is_tagged {a0 a1 a2 c0 c1 c2 : D} (hs : settles [a0, a1, a2] S = ([c0, c1, c2], S')) (h : wpB (g0 n) b_is_tagged (fun _ S' => wpR Q X (leave S.length .non S')) (fun d S' => wpR Q X (leave S.length d S')) (fun c S' => X c (if closed S.length S' then S'.take S.length else S')) [some c0, some c1, some c2] S') : wpR Q X (F (n + 1) 2 [a0, a1, a2] S) := by
  unfold F
  refine wp_call (np := 3) (ns := 3) (body := b_is_tagged) rfl rfl ?_
  rw [hs]; exact h
theorem e_is_place {a0 c0 : D} (hs : settles [a0] S = ([c0], S')) (h : wpB (g0 n) b_is_place (fun _ S' => wpR Q X (leave S.length .non S')) (fun d S' => wpR Q X (leave S.length d S')) (fun c S' => X c (if closed S.length S' then S'.take S.length else S')) [some c0] S') : wpR Q X (F (n + 1) 3 [a0] S) := by
  unfold F
  refine wp_call (np := 1) (ns := 1) (body := b_is_place) rfl rfl ?_
  rw [hs]; exact h
theorem e_is_range {a0 c0 : D} (hs : settles [a0] S = ([c0], S')) (h : wpB (g0 n) b_is_range (fun _ S' => wpR Q X (leave S.length .non S')) (fun d S' => wpR Q X (leave S.length d S')) (fun c S' => X c (if closed S.length S' then S'.take S.length else S')) [some c0] S') : wpR Q X (F (n + 1) 4 [a0] S) := by
  unfold F
  refine wp_call (np := 1) (ns := 1) (body := b_is_range) rfl rfl ?_
  rw [hs]; exact h
theorem e_are_places {a0 c0 : D} (hs : settles [a0] S = ([c0], S')) (h : wpB (g0 n) b_are_places (fun _ S' => wpR Q X (leave S.length .non S')) (fun d S' => wpR Q X (leave S.length d S')) (fun c S' => X c (if closed S.length S' then S'.take S.length else S')) [some c0, none] S') : wpR Q X (F (n + 1) 5 [a0] S) := by
  unfold F
  refine wp_call (np := 1) (ns := 2) (body := b_are_places) rfl rfl ?_
  rw [hs]; exact h
theorem e_is_declaration {a0 c0 : D} (hs : settles [a0] S = ([c0], S')) (h : wpB (g0 n) b_is_declaration (fun _ S' => wpR Q X (leave S.length .non S')) (fun d S' => wpR Q X (leave S.length d S')) (fun c S' => X c (if closed S.length S' then S'.take S.length else S')) [some c0, none] S') : wpR Q X (F (n + 1) 6 [a0] S) := by
  unfold F
  refine wp_call (np := 1) (ns := 2) (body := b_is_declaration) rfl rfl ?_
  rw [hs]; exact h
theorem e_made_world {a0 c0 : D} (hs : settles [a0] S = ([c0], S')) (h : wpB (g0 n) b_made_world (fun _ S' => wpR Q X (leave S.length .non S')) (fun d S' => wpR Q X (leave S.length d S')) (fun c S' => X c (if closed S.length S' then S'.take S.length else S')) [some c0, none, none] S') : wpR Q X (F (n + 1) 7 [a0] S) := by
  unfold F
  refine wp_call (np := 1) (ns := 3) (body := b_made_world) rfl rfl ?_
  rw [hs]; exact h
theorem e_show_kind {a0 c0 : D} (hs : settles [a0] S = ([c0], S')) (h : wpB (g0 n) b_show_kind (fun _ S' => wpR Q X (leave S.length .non S')) (fun d S' => wpR Q X (leave S.length d S')) (fun c S' => X c (if closed S.length S' then S'.take S.length else S')) [some c0, none] S') : wpR Q X (F (n + 1) 8 [a0] S) := by
  unfold F
  refine wp_call (np := 1) (ns := 2) (body := b_show_kind) rfl rfl ?_
  rw [hs]; exact h
theorem e_show_declaration {a0 c0 : D} (hs : settles [a0] S = ([c0], S')) (h : wpB (g0 n) b_show_declaration (fun _ S' => wpR Q X (leave S.length .non S')) (fun d S' => wpR Q X (leave S.length d S')) (fun c S' => X c (if closed S.length S' then S'.take S.length else S')) [some c0, none, none] S') : wpR Q X (F (n + 1) 9 [a0] S) := by
  unfold F
  refine wp_call (np := 1) (ns := 3) (body := b_show_declaration) rfl rfl ?_
  rw [hs]; exact h
theorem e_show_world {a0 c0 : D} (hs : settles [a0] S = ([c0], S')) (h : wpB (g0 n) b_show_world (fun _ S' => wpR Q X (leave S.length .non S')) (fun d S' => wpR Q X (leave S.length d S')) (fun c S' => X c (if closed S.length S' then S'.take S.length else S')) [some c0, none] S') : wpR Q X (F (n + 1) 10 [a0] S) := by
  unfold F
  refine wp_call (np := 1) (ns := 2) (body := b_show_world) rfl rfl ?_
  rw [hs]; exact h
theorem e_int_in {a0 c0 : D} (hs : settles [a0] S = ([c0], S')) (h : wpB (g0 n) b_int_in (fun _ S' => wpR Q X (leave S.length .non S')) (fun d S' => wpR Q X (leave S.length d S')) (fun c S' => X c (if closed S.length S' then S'.take S.length else S')) [some c0, none, none] S') : wpR Q X (F (n + 1) 11 [a0] S) := by
  unfold F
  refine wp_call (np := 1) (ns := 3) (body := b_int_in) rfl rfl ?_
  rw [hs]; exact h
theorem e_kind_in {a0 c0 : D} (hs : settles [a0] S = ([c0], S')) (h : wpB (g0 n) b_kind_in (fun _ S' => wpR Q X (leave S.length .non S')) (fun d S' => wpR Q X (leave S.length d S')) (fun c S' => X c (if closed S.length S' then S'.take S.length else S')) [some c0, none, none] S') : wpR Q X (F (n + 1) 12 [a0] S) := by
  unfold F
  refine wp_call (np := 1) (ns := 3) (body := b_kind_in) rfl rfl ?_
  rw [hs]; exact h
theorem e_declaration_in {a0 c0 : D} (hs : settles [a0] S = ([c0], S')) (h : wpB (g0 n) b_declaration_in (fun _ S' => wpR Q X (leave S.length .non S')) (fun d S' => wpR Q X (leave S.length d S')) (fun c S' => X c (if closed S.length S' then S'.take S.length else S')) [some c0, none, none, none] S') : wpR Q X (F (n + 1) 13 [a0] S) := by
  unfold F
  refine wp_call (np := 1) (ns := 4) (body := b_declaration_in) rfl rfl ?_
  rw [hs]; exact h
theorem e_read_world {a0 c0 : D} (hs : settles [a0] S = ([c0], S')) (h : wpB (g0 n) b_read_world (fun _ S' => wpR Q X (leave S.length .non S')) (fun d S' => wpR Q X (leave S.length d S')) (fun c S' => X c (if closed S.length S' then S'.take S.length else S')) [some c0, none, none, none] S') : wpR Q X (F (n + 1) 14 [a0] S) := by
  unfold F
  refine wp_call (np := 1) (ns := 4) (body := b_read_world) rfl rfl ?_
  rw [hs]; exact h
theorem e__law_cell_at {a0 a1 c0 c1 : D} (hs : settles [a0, a1] S = ([c0, c1], S')) (h : wpB (g0 n) b__law_cell_at (fun _ S' => wpR Q X (leave S.length .non S')) (fun d S' => wpR Q X (leave S.length d S')) (fun c S' => X c (if closed S.length S' then S'.take S.length else S')) [some c0, some c1] S') : wpR Q X (F (n + 1) 15 [a0, a1] S) := by
  unfold F
  refine wp_call (np := 2) (ns := 2) (body := b__law_cell_at) rfl rfl ?_
  rw [hs]; exact h
theorem e__law_stream {a0 a1 c0 c1 : D} (hs : settles [a0, a1] S = ([c0, c1], S')) (h : wpB (g0 n) b__law_stream (fun _ S' => wpR Q X (leave S.length .non S')) (fun d S' => wpR Q X (leave S.length d S')) (fun c S' => X c (if closed S.length S' then S'.take S.length else S')) [some c0, some c1, none, none, none, none, none, none] S') : wpR Q X (F (n + 1) 16 [a0, a1] S) := by
  unfold F
  refine wp_call (np := 2) (ns := 8) (body := b__law_stream) rfl rfl ?_
  rw [hs]; exact h
theorem e__law_take {a0 c0 : D} (hs : settles [a0] S = ([c0], S')) (h : wpB (g0 n) b__law_take (fun _ S' => wpR Q X (leave S.length .non S')) (fun d S' => wpR Q X (leave S.length d S')) (fun c S' => X c (if closed S.length S' then S'.take S.length else S')) [some c0] S') : wpR Q X (F (n + 1) 17 [a0] S) := by
  unfold F
  refine wp_call (np := 1) (ns := 1) (body := b__law_take) rfl rfl ?_
  rw [hs]; exact h
theorem e__law_name {a0 a1 c0 c1 : D} (hs : settles [a0, a1] S = ([c0, c1], S')) (h : wpB (g0 n) b__law_name (fun _ S' => wpR Q X (leave S.length .non S')) (fun d S' => wpR Q X (leave S.length d S')) (fun c S' => X c (if closed S.length S' then S'.take S.length else S')) [some c0, some c1, none, none] S') : wpR Q X (F (n + 1) 18 [a0, a1] S) := by
  unfold F
  refine wp_call (np := 2) (ns := 4) (body := b__law_name) rfl rfl ?_
  rw [hs]; exact h
theorem e__law_any_kind {a0 a1 c0 c1 : D} (hs : settles [a0, a1] S = ([c0, c1], S')) (h : wpB (g0 n) b__law_any_kind (fun _ S' => wpR Q X (leave S.length .non S')) (fun d S' => wpR Q X (leave S.length d S')) (fun c S' => X c (if closed S.length S' then S'.take S.length else S')) [some c0, some c1, none, none] S') : wpR Q X (F (n + 1) 19 [a0, a1] S) := by
  unfold F
  refine wp_call (np := 2) (ns := 4) (body := b__law_any_kind) rfl rfl ?_
  rw [hs]; exact h
theorem e__law_any_row {a0 a1 c0 c1 : D} (hs : settles [a0, a1] S = ([c0, c1], S')) (h : wpB (g0 n) b__law_any_row (fun _ S' => wpR Q X (leave S.length .non S')) (fun d S' => wpR Q X (leave S.length d S')) (fun c S' => X c (if closed S.length S' then S'.take S.length else S')) [some c0, some c1, none, none, none] S') : wpR Q X (F (n + 1) 20 [a0, a1] S) := by
  unfold F
  refine wp_call (np := 2) (ns := 5) (body := b__law_any_row) rfl rfl ?_
  rw [hs]; exact h
theorem e__law_any_world {a0 c0 : D} (hs : settles [a0] S = ([c0], S')) (h : wpB (g0 n) b__law_any_world (fun _ S' => wpR Q X (leave S.length .non S')) (fun d S' => wpR Q X (leave S.length d S')) (fun c S' => X c (if closed S.length S' then S'.take S.length else S')) [some c0, none, none, none, none, none] S') : wpR Q X (F (n + 1) 21 [a0] S) := by
  unfold F
  refine wp_call (np := 1) (ns := 6) (body := b__law_any_world) rfl rfl ?_
  rw [hs]; exact h
theorem e__law_kind_text {a0 c0 : D} (hs : settles [a0] S = ([c0], S')) (h : wpB (g0 n) b__law_kind_text (fun _ S' => wpR Q X (leave S.length .non S')) (fun d S' => wpR Q X (leave S.length d S')) (fun c S' => X c (if closed S.length S' then S'.take S.length else S')) [some c0, none] S') : wpR Q X (F (n + 1) 22 [a0] S) := by
  unfold F
  refine wp_call (np := 1) (ns := 2) (body := b__law_kind_text) rfl rfl ?_
  rw [hs]; exact h
theorem e__law_row_text {a0 c0 : D} (hs : settles [a0] S = ([c0], S')) (h : wpB (g0 n) b__law_row_text (fun _ S' => wpR Q X (leave S.length .non S')) (fun d S' => wpR Q X (leave S.length d S')) (fun c S' => X c (if closed S.length S' then S'.take S.length else S')) [some c0, none, none, none] S') : wpR Q X (F (n + 1) 23 [a0] S) := by
  unfold F
  refine wp_call (np := 1) (ns := 4) (body := b__law_row_text) rfl rfl ?_
  rw [hs]; exact h
theorem e__law_world_text {a0 c0 : D} (hs : settles [a0] S = ([c0], S')) (h : wpB (g0 n) b__law_world_text (fun _ S' => wpR Q X (leave S.length .non S')) (fun d S' => wpR Q X (leave S.length d S')) (fun c S' => X c (if closed S.length S' then S'.take S.length else S')) [some c0, none] S') : wpR Q X (F (n + 1) 24 [a0] S) := by
  unfold F
  refine wp_call (np := 1) (ns := 2) (body := b__law_world_text) rfl rfl ?_
  rw [hs]; exact h
theorem e__law_refused {a0 c0 : D} (hs : settles [a0] S = ([c0], S')) (h : wpB (g0 n) b__law_refused (fun _ S' => wpR Q X (leave S.length .non S')) (fun d S' => wpR Q X (leave S.length d S')) (fun c S' => X c (if closed S.length S' then S'.take S.length else S')) [some c0, none, none] S') : wpR Q X (F (n + 1) 25 [a0] S) := by
  unfold F
  refine wp_call (np := 1) (ns := 3) (body := b__law_refused) rfl rfl ?_
  rw [hs]; exact h
theorem e__law_told {a0 c0 : D} (hs : settles [a0] S = ([c0], S')) (h : wpB (g0 n) b__law_told (fun _ S' => wpR Q X (leave S.length .non S')) (fun d S' => wpR Q X (leave S.length d S')) (fun c S' => X c (if closed S.length S' then S'.take S.length else S')) [some c0, none] S') : wpR Q X (F (n + 1) 26 [a0] S) := by
  unfold F
  refine wp_call (np := 1) (ns := 2) (body := b__law_told) rfl rfl ?_
  rw [hs]; exact h
theorem e__law_spoiled {a0 a1 c0 c1 : D} (hs : settles [a0, a1] S = ([c0, c1], S')) (h : wpB (g0 n) b__law_spoiled (fun _ S' => wpR Q X (leave S.length .non S')) (fun d S' => wpR Q X (leave S.length d S')) (fun c S' => X c (if closed S.length S' then S'.take S.length else S')) [some c0, some c1, none, none, none, none, none, none] S') : wpR Q X (F (n + 1) 27 [a0, a1] S) := by
  unfold F
  refine wp_call (np := 2) (ns := 8) (body := b__law_spoiled) rfl rfl ?_
  rw [hs]; exact h
theorem e__law_none {a0 c0 : D} (hs : settles [a0] S = ([c0], S')) (h : wpB (g0 n) b__law_none (fun _ S' => wpR Q X (leave S.length .non S')) (fun d S' => wpR Q X (leave S.length d S')) (fun c S' => X c (if closed S.length S' then S'.take S.length else S')) [some c0, none, none] S') : wpR Q X (F (n + 1) 28 [a0] S) := by
  unfold F
  refine wp_call (np := 1) (ns := 3) (body := b__law_none) rfl rfl ?_
  rw [hs]; exact h
theorem e_law {a0 c0 : D} (hs : settles [a0] S = ([c0], S')) (h : wpB (g0 n) b_law (fun _ S' => wpR Q X (leave S.length .non S')) (fun d S' => wpR Q X (leave S.length d S')) (fun c S' => X c (if closed S.length S' then S'.take S.length else S')) [some c0, none, none, none, none, none] S') : wpR Q X (F (n + 1) 29 [a0] S) := by
  unfold F
  refine wp_call (np := 1) (ns := 6) (body := b_law) rfl rfl ?_
  rw [hs]; exact h
end
end Pg
end
section
set_option Elab.async false
set_option linter.all false
set_option maxRecDepth 100000
namespace Pg
open Ev
local macro_rules
  | `(tactic| simp! only [$as,*] $[$l]?) => `(tactic| simp only [wpB_cons, wpB_nil, wpS_set, wpS_setT, wpS_par, wpS_setI, wpS_expr, wpS_ret, wpS_ife, wpS_raise, wpS_try, wpS_aug, wpE_var, wpE_cst, wpE_tup, wpE_lst, wpE_dct0, wpE_bin, wpE_neg, wpE_not, wpE_and, wpE_or, wpE_cmp, wpE_cmp2, wpE_is, wpE_ife, wpE_idx, wpE_sl, wpE_call, wpE_blt, wpE_mth, wpE_isi, wpEs_nil, wpEs_cons, wpR_ok, wpR_ex, wpO_some, wpO_map, wpT_true, wpT_false, wpT_not, wpIfs_nil, wpIfs_one, getV_0, getV_s, List.set_cons_succ, List.set_cons_zero, g0_F, g0_isa, truth_non, truth_bl, truth_int, truth_tup, truth_lst, truth_fz, Option.map_some, Option.isSome_some, if_true, Bool.false_eq_true, if_false, Bool.not_true, Bool.not_false, isPart, setTg, setNames, bin_add, bin_sub, cmp_lt, cmp_gt, cmp_le, cmp_ge, cmp_eq, orD_some, cmp_ne, eq_int, eq_str, abs_int, tuple_seq, list_seq, seqOf_tup, seqOf_lst, seqOf_fz, seqOf_ref, int_bl, mdl, fdl, min2, max2, pu_non, pu_bl, pu_int, pu_str, pu_nil, pu_cons, pure_tup, Bool.and_self, Int.reduceLT, and_true, true_and, decide_true, decide_false, isC_b_non, isC_n_bl, isC_n_int, isC_b_int, isC_n_str, isC_b_str, isC_n_tup, isC_b_tup, isC_n_lst, isC_b_lst, isC_n_fz, isC_b_fz, isC_n_dct, isC_b_dct, isC_n_ref, isC_b_ref, isC_n_exc, isC_b_exc, isC_n_non, isC_true_true_true, isC_true_true_false, isC_true_false_true, isC_true_false_false, isC_false_true_true, isC_false_true_false, isC_false_false_true, isC_false_false_false, isTys_nil, isTys_c, isTy_exv, isTy_exc, isTy_non_int, isTy_non_str, isTy_non_tuple, isTy_non_list, isTy_non_dict, isTy_non_bool, isTy_bl_int, isTy_bl_str, isTy_bl_tuple, isTy_bl_list, isTy_bl_dict, isTy_bl_bool, isTy_int_int, isTy_int_str, isTy_int_tuple, isTy_int_list, isTy_int_dict, isTy_int_bool, isTy_str_int, isTy_str_str, isTy_str_tuple, isTy_str_list, isTy_str_dict, isTy_str_bool, isTy_tup_int, isTy_tup_str, isTy_tup_tuple, isTy_tup_list, isTy_tup_dict, isTy_tup_bool, isTy_lst_int, isTy_lst_str, isTy_lst_tuple, isTy_lst_list, isTy_lst_dict, isTy_lst_bool, isTy_fz_int, isTy_fz_str, isTy_fz_tuple, isTy_fz_list, isTy_fz_dict, isTy_fz_bool, isTy_dct_int, isTy_dct_str, isTy_dct_tuple, isTy_dct_list, isTy_dct_dict, isTy_dct_bool, Option.bind_some, settle_int, settle_str, settle_bl, settle_non, settle_ref, settle_fz, settle_exc, settle_tup, settle_lst, settle_dct, settles_nil, settles_cons, $as,*] $[$l]?)
variable {n : Nat} {S : Sto}
def isInt : D → Int → Int → Bool
  | .int i, lo, hi => decide (lo ≤ i) && decide (i ≤ hi)
  | _, _, _ => false
theorem c_is_int {d : D} {lo hi : Int} (hp : d.pure = true) (hc : Cl S) : F (n + 1) 0 [d, .int lo, .int hi] S = some (.ok (.bl (isInt d lo hi)) S) := by
  refine wpR_is (e_is_int (by simp only [settle_int, settle_str, settle_bl, settle_non, settle_ref, settle_fz, settle_exc, settle_tup, settle_lst, settle_dct, settles_nil, settles_cons, settle_pure _ _ hp]; rfl) ?_)
  unfold b_is_int
  cases d with
  | int i =>
    simp! only [leave_int0 hc, leave_int hc, leave_bl0 hc, leave_bl hc, leave_str0 hc, leave_str hc, leave_non0 hc, leave_non hc, leave_tup0 hc, leave_tup hc, takeX hc, takeX0 hc]
    refine wpT_d (fun h => ?_) fun h => ?_
    · simp! only [leave_int0 hc, leave_int hc, leave_bl0 hc, leave_bl hc, leave_str0 hc, leave_str hc, leave_non0 hc, leave_non hc, leave_tup0 hc, leave_tup hc, takeX hc, takeX0 hc]
      simp [isInt, h]
    · simp! only [leave_int0 hc, leave_int hc, leave_bl0 hc, leave_bl hc, leave_str0 hc, leave_str hc, leave_non0 hc, leave_non hc, leave_tup0 hc, leave_tup hc, takeX hc, takeX0 hc]
      simp [isInt, h]
  | bl b => cases b <;> simp! only [leave_int0 hc, leave_int hc, leave_bl0 hc, leave_bl hc, leave_str0 hc, leave_str hc, leave_non0 hc, leave_non hc, leave_tup0 hc, leave_tup hc, takeX hc, takeX0 hc] <;> rfl
  | non => simp! only [leave_int0 hc, leave_int hc, leave_bl0 hc, leave_bl hc, leave_str0 hc, leave_str hc, leave_non0 hc, leave_non hc, leave_tup0 hc, leave_tup hc, takeX hc, takeX0 hc]; rfl
  | str x => simp! only [leave_int0 hc, leave_int hc, leave_bl0 hc, leave_bl hc, leave_str0 hc, leave_str hc, leave_non0 hc, leave_non hc, leave_tup0 hc, leave_tup hc, takeX hc, takeX0 hc]; rfl
  | tup x => simp! only [leave_int0 hc, leave_int hc, leave_bl0 hc, leave_bl hc, leave_str0 hc, leave_str hc, leave_non0 hc, leave_non hc, leave_tup0 hc, leave_tup hc, takeX hc, takeX0 hc]; rfl
  | _ => cases hp
end Pg
end
section
set_option Elab.async false
set_option linter.all false
set_option maxRecDepth 100000
namespace Pg
open Ev
local macro_rules
  | `(tactic| simp! only [$as,*] $[$l]?) => `(tactic| simp only [wpB_cons, wpB_nil, wpS_set, wpS_setT, wpS_par, wpS_setI, wpS_expr, wpS_ret, wpS_ife, wpS_raise, wpS_try, wpS_aug, wpE_var, wpE_cst, wpE_tup, wpE_lst, wpE_dct0, wpE_bin, wpE_neg, wpE_not, wpE_and, wpE_or, wpE_cmp, wpE_cmp2, wpE_is, wpE_ife, wpE_idx, wpE_sl, wpE_call, wpE_blt, wpE_mth, wpE_isi, wpEs_nil, wpEs_cons, wpR_ok, wpR_ex, wpO_some, wpO_map, wpT_true, wpT_false, wpT_not, wpIfs_nil, wpIfs_one, getV_0, getV_s, List.set_cons_succ, List.set_cons_zero, g0_F, g0_isa, truth_non, truth_bl, truth_int, truth_tup, truth_lst, truth_fz, Option.map_some, Option.isSome_some, if_true, Bool.false_eq_true, if_false, Bool.not_true, Bool.not_false, isPart, setTg, setNames, bin_add, bin_sub, cmp_lt, cmp_gt, cmp_le, cmp_ge, cmp_eq, orD_some, cmp_ne, eq_int, eq_str, abs_int, tuple_seq, list_seq, seqOf_tup, seqOf_lst, seqOf_fz, seqOf_ref, int_bl, mdl, fdl, min2, max2, pu_non, pu_bl, pu_int, pu_str, pu_nil, pu_cons, pure_tup, Bool.and_self, Int.reduceLT, and_true, true_and, decide_true, decide_false, isC_b_non, isC_n_bl, isC_n_int, isC_b_int, isC_n_str, isC_b_str, isC_n_tup, isC_b_tup, isC_n_lst, isC_b_lst, isC_n_fz, isC_b_fz, isC_n_dct, isC_b_dct, isC_n_ref, isC_b_ref, isC_n_exc, isC_b_exc, isC_n_non, isC_true_true_true, isC_true_true_false, isC_true_false_true, isC_true_false_false, isC_false_true_true, isC_false_true_false, isC_false_false_true, isC_false_false_false, isTys_nil, isTys_c, isTy_exv, isTy_exc, isTy_non_int, isTy_non_str, isTy_non_tuple, isTy_non_list, isTy_non_dict, isTy_non_bool, isTy_bl_int, isTy_bl_str, isTy_bl_tuple, isTy_bl_list, isTy_bl_dict, isTy_bl_bool, isTy_int_int, isTy_int_str, isTy_int_tuple, isTy_int_list, isTy_int_dict, isTy_int_bool, isTy_str_int, isTy_str_str, isTy_str_tuple, isTy_str_list, isTy_str_dict, isTy_str_bool, isTy_tup_int, isTy_tup_str, isTy_tup_tuple, isTy_tup_list, isTy_tup_dict, isTy_tup_bool, isTy_lst_int, isTy_lst_str, isTy_lst_tuple, isTy_lst_list, isTy_lst_dict, isTy_lst_bool, isTy_fz_int, isTy_fz_str, isTy_fz_tuple, isTy_fz_list, isTy_fz_dict, isTy_fz_bool, isTy_dct_int, isTy_dct_str, isTy_dct_tuple, isTy_dct_list, isTy_dct_dict, isTy_dct_bool, Option.bind_some, settle_int, settle_str, settle_bl, settle_non, settle_ref, settle_fz, settle_exc, settle_tup, settle_lst, settle_dct, settles_nil, settles_cons, $as,*] $[$l]?)
variable {n : Nat} {S : Sto}
/-- plain data, or a list of the store -/
def Pl (S : Sto) (d : D) : Prop := d.pure = true ∨ ∃ k ds, d = .ref k ∧ S[k]? = some (.lst ds)
/-- a thing that may be declared: a tuple of such, or such -/
def Th (S : Sto) (d : D) : Prop := Pl S d ∨ ∃ ds, d = .tup ds ∧ ∀ x ∈ ds, Pl S x
def att : D → Nat → D
  | .tup ds, i => ds.getD i .non
  | _, _ => .non
def isTg (d : D) (tag : PySem.Str) (long : Int) : Bool := match d with
  | .tup (.str s :: ds) => decide ((ds.length : Int) + 1 = long) && decide (s = tag)
  | _ => false
theorem Pl.settled {d : D} (h : Pl S d) : d.settled = true := by
  rcases h with h | ⟨k, ds, rfl, _⟩
  · exact pure_settled d h
  · rfl
theorem Th.settled {d : D} (h : Th S d) : d.settled = true := by
  rcases h with h | ⟨ds, rfl, h⟩
  · exact h.settled
  · unfold D.settled
    rw [settleds_all, List.all_eq_true]
    exact fun x m => (h x m).settled
theorem Pl.th {d : D} (h : Pl S d) : Th S d := .inl h
theorem Pl.of {d : D} (h : d.pure = true) : Pl S d := .inl h
theorem Th.parts {ds : List D} (h : Th S (.tup ds)) : ∀ x ∈ ds, Pl S x := by
  rcases h with h | ⟨es, e, h⟩
  · rcases h with h | ⟨k, es, e, _⟩
    · rw [pure_tup] at h
      exact fun x m => .inl (pures_mem h m)
    · cases e
  · cases e; exact h
theorem tg_at {d : D} {tag : PySem.Str} {long : Int} (h : isTg d tag long = true) : ∃ ds, d = .tup (.str tag :: ds) ∧ (ds.length : Int) + 1 = long := by
  unfold isTg at h
  split at h
  · rename_i s ds
    simp only [Bool.and_eq_true, decide_eq_true_eq] at h
    obtain ⟨h1, rfl⟩ := h
    exact ⟨ds, rfl, h1⟩
  · cases h
theorem c_is_tagged {d : D} {tag : PySem.Str} {long : Int} (ht : Th S d) (hl0 : 1 ≤ long) (hc : Cl S) : F (n + 1) 2 [d, .str tag, .int long] S = some (.ok (.bl (isTg d tag long)) S) := by
  refine wpR_is (e_is_tagged (by simp only [settle_int, settle_str, settle_bl, settle_non, settle_ref, settle_fz, settle_exc, settle_tup, settle_lst, settle_dct, settles_nil, settles_cons, settle_settled _ _ ht.settled]; rfl) ?_)
  unfold b_is_tagged
  cases d with
  | tup ds =>
    have hp := ht.parts
    have hl : bltE S .len [.tup ds] = some (.int ds.length) := len_seq rfl
    simp! only [leave_int0 hc, leave_int hc, leave_bl0 hc, leave_bl hc, leave_str0 hc, leave_str hc, leave_non0 hc, leave_non hc, leave_tup0 hc, leave_tup hc, takeX hc, takeX0 hc, hl]
    refine wpT_d (fun h => ?_) fun h => ?_
    · cases ds with
      | nil => simp at h; omega
      | cons x ds =>
        simp! only [leave_int0 hc, leave_int hc, leave_bl0 hc, leave_bl hc, leave_str0 hc, leave_str hc, leave_non0 hc, leave_non hc, leave_tup0 hc, leave_tup hc, takeX hc, takeX0 hc, get_app, get_app0, set_app, set_app0, mutOf_r, listOf_r, dictOf_r, idx_r, idx_l, idx_f, idx_tup, mth_append, mth_pop, rcv_append, rcv_pop, rcv_extend, atI_0, atI_1, atI_2, atI_3, atI_4, add_rl, add_lr, add_ll, List.getElem?_cons_zero, List.getElem?_cons_succ]
        have hx := hp x List.mem_cons_self
        have no : (∀ s, x ≠ .str s) → isTg (.tup (x :: ds)) tag long = false := fun q => by
          unfold isTg
          split
          · rename_i s e0 e
            cases e
            exact absurd rfl (q s)
          · rfl
        rcases hx with hx | ⟨k, es, rfl, hk⟩
        · cases x with
          | str s =>
            simp! only [leave_int0 hc, leave_int hc, leave_bl0 hc, leave_bl hc, leave_str0 hc, leave_str hc, leave_non0 hc, leave_non hc, leave_tup0 hc, leave_tup hc, takeX hc, takeX0 hc, get_app, get_app0, set_app, set_app0, mutOf_r, listOf_r, dictOf_r, idx_r, idx_l, idx_f, idx_tup, mth_append, mth_pop, rcv_append, rcv_pop, rcv_extend, atI_0, atI_1, atI_2, atI_3, atI_4, add_rl, add_lr, add_ll, List.getElem?_cons_zero, List.getElem?_cons_succ]
            have : (ds.length : Int) + 1 = long := by simp at h; omega
            simp [isTg, this]
          | non => simp! only [leave_int0 hc, leave_int hc, leave_bl0 hc, leave_bl hc, leave_str0 hc, leave_str hc, leave_non0 hc, leave_non hc, leave_tup0 hc, leave_tup hc, takeX hc, takeX0 hc, get_app, get_app0, set_app, set_app0, mutOf_r, listOf_r, dictOf_r, idx_r, idx_l, idx_f, idx_tup, mth_append, mth_pop, rcv_append, rcv_pop, rcv_extend, atI_0, atI_1, atI_2, atI_3, atI_4, add_rl, add_lr, add_ll, List.getElem?_cons_zero, List.getElem?_cons_succ]; rw [no (by simp)]
          | bl b => simp! only [leave_int0 hc, leave_int hc, leave_bl0 hc, leave_bl hc, leave_str0 hc, leave_str hc, leave_non0 hc, leave_non hc, leave_tup0 hc, leave_tup hc, takeX hc, takeX0 hc, get_app, get_app0, set_app, set_app0, mutOf_r, listOf_r, dictOf_r, idx_r, idx_l, idx_f, idx_tup, mth_append, mth_pop, rcv_append, rcv_pop, rcv_extend, atI_0, atI_1, atI_2, atI_3, atI_4, add_rl, add_lr, add_ll, List.getElem?_cons_zero, List.getElem?_cons_succ]; rw [no (by simp)]
          | int b => simp! only [leave_int0 hc, leave_int hc, leave_bl0 hc, leave_bl hc, leave_str0 hc, leave_str hc, leave_non0 hc, leave_non hc, leave_tup0 hc, leave_tup hc, takeX hc, takeX0 hc, get_app, get_app0, set_app, set_app0, mutOf_r, listOf_r, dictOf_r, idx_r, idx_l, idx_f, idx_tup, mth_append, mth_pop, rcv_append, rcv_pop, rcv_extend, atI_0, atI_1, atI_2, atI_3, atI_4, add_rl, add_lr, add_ll, List.getElem?_cons_zero, List.getElem?_cons_succ]; rw [no (by simp)]
          | tup b => simp! only [leave_int0 hc, leave_int hc, leave_bl0 hc, leave_bl hc, leave_str0 hc, leave_str hc, leave_non0 hc, leave_non hc, leave_tup0 hc, leave_tup hc, takeX hc, takeX0 hc, get_app, get_app0, set_app, set_app0, mutOf_r, listOf_r, dictOf_r, idx_r, idx_l, idx_f, idx_tup, mth_append, mth_pop, rcv_append, rcv_pop, rcv_extend, atI_0, atI_1, atI_2, atI_3, atI_4, add_rl, add_lr, add_ll, List.getElem?_cons_zero, List.getElem?_cons_succ]; rw [no (by simp)]
          | _ => cases hx
        · simp! only [leave_int0 hc, leave_int hc, leave_bl0 hc, leave_bl hc, leave_str0 hc, leave_str hc, leave_non0 hc, leave_non hc, leave_tup0 hc, leave_tup hc, takeX hc, takeX0 hc, get_app, get_app0, set_app, set_app0, mutOf_r, listOf_r, dictOf_r, idx_r, idx_l, idx_f, idx_tup, mth_append, mth_pop, rcv_append, rcv_pop, rcv_extend, atI_0, atI_1, atI_2, atI_3, atI_4, add_rl, add_lr, add_ll, List.getElem?_cons_zero, List.getElem?_cons_succ, isTy_rl_str hk]; rw [no (by simp)]
    · simp! only [leave_int0 hc, leave_int hc, leave_bl0 hc, leave_bl hc, leave_str0 hc, leave_str hc, leave_non0 hc, leave_non hc, leave_tup0 hc, leave_tup hc, takeX hc, takeX0 hc, h]
      have : isTg (.tup ds) tag long = false := by
        unfold isTg
        split
        · rename_i s es e
          cases e
          have : ¬ (es.length : Int) + 1 = long := by simp at h; omega
          simp [this]
        · rfl
      rw [this]
  | ref k =>
    rcases ht with (h | ⟨k', ds, e, hk⟩) | ⟨ds, e, _⟩
    · cases h
    · cases e
      simp! only [leave_int0 hc, leave_int hc, leave_bl0 hc, leave_bl hc, leave_str0 hc, leave_str hc, leave_non0 hc, leave_non hc, leave_tup0 hc, leave_tup hc, takeX hc, takeX0 hc, isTy_rl_tuple hk]; rfl
    · cases e
  | non => simp! only [leave_int0 hc, leave_int hc, leave_bl0 hc, leave_bl hc, leave_str0 hc, leave_str hc, leave_non0 hc, leave_non hc, leave_tup0 hc, leave_tup hc, takeX hc, takeX0 hc]; rfl
  | bl b => simp! only [leave_int0 hc, leave_int hc, leave_bl0 hc, leave_bl hc, leave_str0 hc, leave_str hc, leave_non0 hc, leave_non hc, leave_tup0 hc, leave_tup hc, takeX hc, takeX0 hc]; rfl
  | int b => simp! only [leave_int0 hc, leave_int hc, leave_bl0 hc, leave_bl hc, leave_str0 hc, leave_str hc, leave_non0 hc, leave_non hc, leave_tup0 hc, leave_tup hc, takeX hc, takeX0 hc]; rfl
  | str b => simp! only [leave_int0 hc, leave_int hc, leave_bl0 hc, leave_bl hc, leave_str0 hc, leave_str hc, leave_non0 hc, leave_non hc, leave_tup0 hc, leave_tup hc, takeX hc, takeX0 hc]; rfl
  | _ => rcases ht with (h | ⟨k', ds, e, hk⟩) | ⟨ds, e, _⟩ <;> first | cases h | cases e
def isPlace (d : D) : Bool := if isTg d "table" 2 then isInt (att d 1) 2 5 else isTg d "fraction" 1
theorem tg_parts {d : D} {tag : PySem.Str} {long : Int} (ht : Pl S d) (h : isTg d tag long = true) : ∃ ds, d = .tup (.str tag :: ds) ∧ (ds.length : Int) + 1 = long ∧ ∀ x ∈ ds, x.pure = true := by
  obtain ⟨ds, rfl, hl⟩ := tg_at h
  refine ⟨ds, rfl, hl, fun x m => ?_⟩
  rcases ht with h | ⟨k, es, e, _⟩
  · rw [pure_tup] at h
    exact pures_mem h (List.mem_cons_of_mem _ m)
  · cases e
theorem c_is_place {d : D} (ht : Pl S d) (hc : Cl S) : F (n + 2) 3 [d] S = some (.ok (.bl (isPlace d)) S) := by
  refine wpR_is (e_is_place (by simp only [settle_int, settle_str, settle_bl, settle_non, settle_ref, settle_fz, settle_exc, settle_tup, settle_lst, settle_dct, settles_nil, settles_cons, settle_settled _ _ ht.settled]; rfl) ?_)
  unfold b_is_place
  have h1 := c_is_tagged (n := n) (tag := "table") (long := 2) ht.th (by decide) hc
  have h2 := c_is_tagged (n := n) (tag := "fraction") (long := 1) ht.th (by decide) hc
  simp! only [leave_int0 hc, leave_int hc, leave_bl0 hc, leave_bl hc, leave_str0 hc, leave_str hc, leave_non0 hc, leave_non hc, leave_tup0 hc, leave_tup hc, takeX hc, takeX0 hc, h1]
  refine wpT_i (fun h => ?_) fun h => ?_
  · obtain ⟨ds, rfl, hl, hp⟩ := tg_parts ht h
    match ds, hl with
    | [x], _ =>
      have h3 := c_is_int (n := n) (lo := 2) (hi := 5) (hp x (by simp)) hc
      simp! only [leave_int0 hc, leave_int hc, leave_bl0 hc, leave_bl hc, leave_str0 hc, leave_str hc, leave_non0 hc, leave_non hc, leave_tup0 hc, leave_tup hc, takeX hc, takeX0 hc, get_app, get_app0, set_app, set_app0, mutOf_r, listOf_r, dictOf_r, idx_r, idx_l, idx_f, idx_tup, mth_append, mth_pop, rcv_append, rcv_pop, rcv_extend, atI_0, atI_1, atI_2, atI_3, atI_4, add_rl, add_lr, add_ll, List.getElem?_cons_zero, List.getElem?_cons_succ, h3]
      simp [isPlace, h, att]
  · simp! only [leave_int0 hc, leave_int hc, leave_bl0 hc, leave_bl hc, leave_str0 hc, leave_str hc, leave_non0 hc, leave_non hc, leave_tup0 hc, leave_tup hc, takeX hc, takeX0 hc, h2]
    simp [isPlace, h]
def isRange (d : D) : Bool := isTg d "range" 3 && isInt (att d 1) (-50) 50 && (match att d 1 with | .int a => isInt (att d 2) a (if a + 16 < 50 then a + 16 else 50) | _ => false)
theorem c_is_range {d : D} (ht : Pl S d) (hc : Cl S) : F (n + 2) 4 [d] S = some (.ok (.bl (isRange d)) S) := by
  refine wpR_is (e_is_range (by simp only [settle_int, settle_str, settle_bl, settle_non, settle_ref, settle_fz, settle_exc, settle_tup, settle_lst, settle_dct, settles_nil, settles_cons, settle_settled _ _ ht.settled]; rfl) ?_)
  unfold b_is_range
  have h1 := c_is_tagged (n := n) (tag := "range") (long := 3) ht.th (by decide) hc
  simp! only [leave_int0 hc, leave_int hc, leave_bl0 hc, leave_bl hc, leave_str0 hc, leave_str hc, leave_non0 hc, leave_non hc, leave_tup0 hc, leave_tup hc, takeX hc, takeX0 hc, h1]
  refine wpT_i (fun h => ?_) fun h => ?_
  · obtain ⟨ds, rfl, hl, hp⟩ := tg_parts ht h
    match ds, hl with
    | [x, y], _ =>
      have h3 := c_is_int (n := n) (lo := 0 - 50) (hi := 50) (hp x (by simp)) hc
      simp! only [leave_int0 hc, leave_int hc, leave_bl0 hc, leave_bl hc, leave_str0 hc, leave_str hc, leave_non0 hc, leave_non hc, leave_tup0 hc, leave_tup hc, takeX hc, takeX0 hc, get_app, get_app0, set_app, set_app0, mutOf_r, listOf_r, dictOf_r, idx_r, idx_l, idx_f, idx_tup, mth_append, mth_pop, rcv_append, rcv_pop, rcv_extend, atI_0, atI_1, atI_2, atI_3, atI_4, add_rl, add_lr, add_ll, List.getElem?_cons_zero, List.getElem?_cons_succ, h3]
      refine wpT_i (fun h4 => ?_) fun h4 => ?_
      · cases x with
        | int a =>
          have h5 := c_is_int (n := n) (lo := a) (hi := if a + 16 < 50 then a + 16 else 50) (hp y (by simp)) hc
          have hm : bltE S .min2 [.int 50, .int (a + 16)] = some (.int (if a + 16 < 50 then a + 16 else 50)) := rfl
          simp! only [leave_int0 hc, leave_int hc, leave_bl0 hc, leave_bl hc, leave_str0 hc, leave_str hc, leave_non0 hc, leave_non hc, leave_tup0 hc, leave_tup hc, takeX hc, takeX0 hc, get_app, get_app0, set_app, set_app0, mutOf_r, listOf_r, dictOf_r, idx_r, idx_l, idx_f, idx_tup, mth_append, mth_pop, rcv_append, rcv_pop, rcv_extend, atI_0, atI_1, atI_2, atI_3, atI_4, add_rl, add_lr, add_ll, List.getElem?_cons_zero, List.getElem?_cons_succ, hm, h5]
          have h4' : isInt (.int a) (-50) 50 = true := h4
          simp [isRange, h, att, h4']
        | _ => cases h4
      · simp! only [leave_int0 hc, leave_int hc, leave_bl0 hc, leave_bl hc, leave_str0 hc, leave_str hc, leave_non0 hc, leave_non hc, leave_tup0 hc, leave_tup hc, takeX hc, takeX0 hc, h4]
        have h4' : isInt x (-50) 50 = false := h4
        simp [isRange, h, att, h4']
  · simp! only [leave_int0 hc, leave_int hc, leave_bl0 hc, leave_bl hc, leave_str0 hc, leave_str hc, leave_non0 hc, leave_non hc, leave_tup0 hc, leave_tup hc, takeX hc, takeX0 hc, h]
    simp [isRange, h]
end Pg
end
section
set_option Elab.async false
set_option linter.all false
set_option maxRecDepth 100000
set_option maxHeartbeats 2000000
namespace Pg
open Ev
local macro_rules
  | `(tactic| simp! only [$as,*] $[$l]?) => `(tactic| simp only [wpB_cons, wpB_nil, wpS_set, wpS_setT, wpS_par, wpS_setI, wpS_expr, wpS_ret, wpS_ife, wpS_raise, wpS_try, wpS_aug, wpE_var, wpE_cst, wpE_tup, wpE_lst, wpE_dct0, wpE_bin, wpE_neg, wpE_not, wpE_and, wpE_or, wpE_cmp, wpE_cmp2, wpE_is, wpE_ife, wpE_idx, wpE_sl, wpE_call, wpE_blt, wpE_mth, wpE_isi, wpEs_nil, wpEs_cons, wpR_ok, wpR_ex, wpO_some, wpO_map, wpT_true, wpT_false, wpT_not, wpIfs_nil, wpIfs_one, getV_0, getV_s, List.set_cons_succ, List.set_cons_zero, g0_F, g0_isa, truth_non, truth_bl, truth_int, truth_tup, truth_lst, truth_fz, Option.map_some, Option.isSome_some, if_true, Bool.false_eq_true, if_false, Bool.not_true, Bool.not_false, isPart, setTg, setNames, bin_add, bin_sub, cmp_lt, cmp_gt, cmp_le, cmp_ge, cmp_eq, orD_some, cmp_ne, eq_int, eq_str, abs_int, tuple_seq, list_seq, seqOf_tup, seqOf_lst, seqOf_fz, seqOf_ref, int_bl, mdl, fdl, min2, max2, pu_non, pu_bl, pu_int, pu_str, pu_nil, pu_cons, pure_tup, Bool.and_self, Int.reduceLT, and_true, true_and, decide_true, decide_false, isC_b_non, isC_n_bl, isC_n_int, isC_b_int, isC_n_str, isC_b_str, isC_n_tup, isC_b_tup, isC_n_lst, isC_b_lst, isC_n_fz, isC_b_fz, isC_n_dct, isC_b_dct, isC_n_ref, isC_b_ref, isC_n_exc, isC_b_exc, isC_n_non, isC_true_true_true, isC_true_true_false, isC_true_false_true, isC_true_false_false, isC_false_true_true, isC_false_true_false, isC_false_false_true, isC_false_false_false, isTys_nil, isTys_c, isTy_exv, isTy_exc, isTy_non_int, isTy_non_str, isTy_non_tuple, isTy_non_list, isTy_non_dict, isTy_non_bool, isTy_bl_int, isTy_bl_str, isTy_bl_tuple, isTy_bl_list, isTy_bl_dict, isTy_bl_bool, isTy_int_int, isTy_int_str, isTy_int_tuple, isTy_int_list, isTy_int_dict, isTy_int_bool, isTy_str_int, isTy_str_str, isTy_str_tuple, isTy_str_list, isTy_str_dict, isTy_str_bool, isTy_tup_int, isTy_tup_str, isTy_tup_tuple, isTy_tup_list, isTy_tup_dict, isTy_tup_bool, isTy_lst_int, isTy_lst_str, isTy_lst_tuple, isTy_lst_list, isTy_lst_dict, isTy_lst_bool, isTy_fz_int, isTy_fz_str, isTy_fz_tuple, isTy_fz_list, isTy_fz_dict, isTy_fz_bool, isTy_dct_int, isTy_dct_str, isTy_dct_tuple, isTy_dct_list, isTy_dct_dict, isTy_dct_bool, Option.bind_some, settle_int, settle_str, settle_bl, settle_non, settle_ref, settle_fz, settle_exc, settle_tup, settle_lst, settle_dct, settles_nil, settles_cons, $as,*] $[$l]?)
variable {n : Nat} {S : Sto}
theorem in_tup {a : D} {ds : List D} (ha : a.pure = true) (hd : a.depth ≤ 150) (hp : pures ds = true) : inE S a (.tup ds) = some (ds.any fun z => z.eqv a) := by
  show inL S a ds = _
  unfold inL resL
  rw [res_pure ha, if_pos hp]
  have : min (depths ds) a.depth ≤ 150 := by omega
  simp only [if_pos this]
theorem in_str {x y : PySem.Str} : inE S (.str x) (.str y) = some (inStr x y) := rfl
theorem items_tup {ds : List D} : itemsOf S .val [.tup ds] = some (ds, none) := rfl
theorem items_lst {ds : List D} : itemsOf S .val [.lst ds] = some (ds, none) := rfl
theorem items_fz {ds : List D} : itemsOf S .val [.fz ds] = some (ds, none) := rfl
theorem items_str {x : PySem.Str} (h : x.length ≤ 16777216) : itemsOf S .val [.str x] = some (x.cps.toList.map fun c => .str ⟨#[c]⟩, none) := if_pos h
theorem items_ref {k : Nat} {ds : List D} (h : S[k]? = some (.lst ds)) : itemsOf S .val [.ref k] = some (ds, some (k, ds)) := by
  show (match S[k]? with | some (.lst ds) => some (ds, some (k, ds)) | _ => none) = _
  rw [h]
theorem len_str {x : PySem.Str} (h : x.length ≤ 16777216) : bltE S .len [.str x] = some (.int x.length) := if_pos h
def arePl : D → Bool
  | .tup ds => (decide (ds.length = 1) || decide (ds.length = 2)) && ds.all isPlace
  | _ => false
theorem c_are_places {d : D} (ht : Pl S d) (hc : Cl S) : F (n + 3) 5 [d] S = some (.ok (.bl (arePl d)) S) := by
  refine wpR_is (e_are_places (by simp only [settle_int, settle_str, settle_bl, settle_non, settle_ref, settle_fz, settle_exc, settle_tup, settle_lst, settle_dct, settles_nil, settles_cons, settle_settled _ _ ht.settled]; rfl) ?_)
  unfold b_are_places
  rcases ht with hp | ⟨k, es, rfl, hk⟩
  · cases d with
    | tup ds =>
      rw [pure_tup] at hp
      have hl : bltE S .len [.tup ds] = some (.int ds.length) := len_seq rfl
      have hin : inE S (.int ds.length) (.tup [.int 1, .int 2]) = some (decide (ds.length = 1) || decide (ds.length = 2)) := by
        rw [in_tup rfl (by simp [D.depth]) rfl]
        simp only [List.any_cons, List.any_nil, D.eqv]
        congr 1
        rw [Bool.eq_iff_iff]
        simp
        omega
      simp! only [leave_int0 hc, leave_int hc, leave_bl0 hc, leave_bl hc, leave_str0 hc, leave_str hc, leave_non0 hc, leave_non hc, leave_tup0 hc, leave_tup hc, takeX hc, takeX0 hc, hl, cmp_nin, hin]
      refine wpT_i (fun h => ?_) fun h => ?_
      · simp! only [h, Bool.not_true]
        refine wp_for (fun k ρ S' => (∀ j, j < k → ∀ x, ds[j]? = some x → isPlace x = true) ∧ (∃ kv, ρ = [some (.tup ds), kv]) ∧ S' = S) ?_
        simp! only [wpB_nil]
        refine ⟨ds, none, items_tup, pures_settled _ hp, ⟨by omega, ⟨_, rfl⟩, rfl⟩, fun _ _ _ _ => trivial, ?_, ?_⟩
        · rintro k x ρ S' hx ⟨hk, ⟨kv, rfl⟩, rfl⟩
          have h3 := c_is_place (n := n) (Pl.of (pures_mem hp (List.mem_of_getElem? hx))) hc
          simp! only [leave_int0 hc, leave_int hc, leave_bl0 hc, leave_bl hc, leave_str0 hc, leave_str hc, leave_non0 hc, leave_non hc, leave_tup0 hc, leave_tup hc, takeX hc, takeX0 hc, h3]
          refine wpT_i (fun h4 => ?_) fun h4 => ?_
          · simp! only [wpB_nil]
            refine ⟨fun j hj y hy => ?_, ⟨_, rfl⟩⟩
            by_cases hjk : j = k
            · subst hjk; rw [hx] at hy; cases hy; exact h4
            · exact hk j (by omega) y hy
          · simp! only [leave_int0 hc, leave_int hc, leave_bl0 hc, leave_bl hc, leave_str0 hc, leave_str hc, leave_non0 hc, leave_non hc, leave_tup0 hc, leave_tup hc, takeX hc, takeX0 hc]
            have : ds.all isPlace = false := by
              rw [List.all_eq_false]
              exact ⟨x, List.mem_of_getElem? hx, by simp [h4]⟩
            simp [arePl, this]
        · rintro ρ S' ⟨hk, ⟨kv, rfl⟩, rfl⟩
          simp! only [leave_int0 hc, leave_int hc, leave_bl0 hc, leave_bl hc, leave_str0 hc, leave_str hc, leave_non0 hc, leave_non hc, leave_tup0 hc, leave_tup hc, takeX hc, takeX0 hc]
          have : ds.all isPlace = true := by
            rw [List.all_eq_true]
            intro x hx
            obtain ⟨j, hj, e⟩ := List.mem_iff_getElem.mp hx
            exact hk j hj x (by rw [List.getElem?_eq_getElem hj, e])
          simp only [arePl, h, this, Bool.and_true]
      · simp! only [leave_int0 hc, leave_int hc, leave_bl0 hc, leave_bl hc, leave_str0 hc, leave_str hc, leave_non0 hc, leave_non hc, leave_tup0 hc, leave_tup hc, takeX hc, takeX0 hc, h, Bool.not_false]
        simp only [arePl, h, Bool.false_and]
    | non => simp! only [leave_int0 hc, leave_int hc, leave_bl0 hc, leave_bl hc, leave_str0 hc, leave_str hc, leave_non0 hc, leave_non hc, leave_tup0 hc, leave_tup hc, takeX hc, takeX0 hc]; rfl
    | bl b => simp! only [leave_int0 hc, leave_int hc, leave_bl0 hc, leave_bl hc, leave_str0 hc, leave_str hc, leave_non0 hc, leave_non hc, leave_tup0 hc, leave_tup hc, takeX hc, takeX0 hc]; rfl
    | int b => simp! only [leave_int0 hc, leave_int hc, leave_bl0 hc, leave_bl hc, leave_str0 hc, leave_str hc, leave_non0 hc, leave_non hc, leave_tup0 hc, leave_tup hc, takeX hc, takeX0 hc]; rfl
    | str b => simp! only [leave_int0 hc, leave_int hc, leave_bl0 hc, leave_bl hc, leave_str0 hc, leave_str hc, leave_non0 hc, leave_non hc, leave_tup0 hc, leave_tup hc, takeX hc, takeX0 hc]; rfl
    | _ => cases hp
  · simp! only [leave_int0 hc, leave_int hc, leave_bl0 hc, leave_bl hc, leave_str0 hc, leave_str hc, leave_non0 hc, leave_non hc, leave_tup0 hc, leave_tup hc, takeX hc, takeX0 hc, isTy_rl_tuple hk]; rfl
def isLet (c : Nat) : Bool := inStr ⟨#[c]⟩ "abcdefghijklmnopqrstuvwxyz"
def isNm (s : PySem.Str) : Bool := decide (1 ≤ s.length) && decide (s.length ≤ 8) && s.cps.toList.all isLet
def isName : D → Bool
  | .str s => isNm s
  | _ => false
theorem c_is_name {d : D} (ht : Pl S d) (hs : ∀ s, d = .str s → s.length ≤ 16777216) (hc : Cl S) : F (n + 1) 1 [d] S = some (.ok (.bl (isName d)) S) := by
  refine wpR_is (e_is_name (by simp only [settle_int, settle_str, settle_bl, settle_non, settle_ref, settle_fz, settle_exc, settle_tup, settle_lst, settle_dct, settles_nil, settles_cons, settle_settled _ _ ht.settled]; rfl) ?_)
  unfold b_is_name
  rcases ht with hp | ⟨k, es, rfl, hk⟩
  · cases d with
    | str s =>
      have hl := hs s rfl
      simp! only [leave_int0 hc, leave_int hc, leave_bl0 hc, leave_bl hc, leave_str0 hc, leave_str hc, leave_non0 hc, leave_non hc, leave_tup0 hc, leave_tup hc, takeX hc, takeX0 hc, len_str (show s.length ≤ 16777216 by omega)]
      refine wpT_d (fun h1 => ?_) fun h1 => ?_
      · simp! only [leave_int0 hc, leave_int hc, leave_bl0 hc, leave_bl hc, leave_str0 hc, leave_str hc, leave_non0 hc, leave_non hc, leave_tup0 hc, leave_tup hc, takeX hc, takeX0 hc]
        refine wpT_d (fun h2 => ?_) fun h2 => ?_
        · simp! only [leave_int0 hc, leave_int hc, leave_bl0 hc, leave_bl hc, leave_str0 hc, leave_str hc, leave_non0 hc, leave_non hc, leave_tup0 hc, leave_tup hc, takeX hc, takeX0 hc, h2]
          refine wp_for (fun k ρ S' => (∀ j, j < k → ∀ x, s.cps.toList[j]? = some x → isLet x = true) ∧ (∃ kv, ρ = [some (.str s), kv]) ∧ S' = S) ?_
          simp! only [wpB_nil]
          refine ⟨_, none, items_str (by omega), ?_, ⟨by omega, ⟨_, rfl⟩, rfl⟩, fun _ _ _ _ => trivial, ?_, ?_⟩
          · rw [settleds_all, List.all_eq_true]
            intro x hx
            obtain ⟨c, _, rfl⟩ := List.mem_map.mp hx
            rfl
          · rintro k x ρ S' hx ⟨hk, ⟨kv, rfl⟩, rfl⟩
            rw [List.getElem?_map] at hx
            obtain ⟨c, hx1, rfl⟩ := Option.map_eq_some_iff.mp hx
            simp! only [cmp_nin, in_str]
            refine wpT_i (fun h4 => ?_) fun h4 => ?_
            · simp! only [wpB_nil]
              refine ⟨fun j hj y hy => ?_, ⟨_, rfl⟩⟩
              by_cases hjk : j = k
              · subst hjk; rw [hx1] at hy; cases hy; exact h4
              · exact hk j (by omega) y hy
            · simp! only [leave_int0 hc, leave_int hc, leave_bl0 hc, leave_bl hc, leave_str0 hc, leave_str hc, leave_non0 hc, leave_non hc, leave_tup0 hc, leave_tup hc, takeX hc, takeX0 hc]
              have : s.cps.toList.all isLet = false := by
                rw [List.all_eq_false]
                exact ⟨c, List.mem_of_getElem? hx1, by unfold isLet; rw [h4]; simp⟩
              simp [isName, isNm, this]
          · rintro ρ S' ⟨hk, ⟨kv, rfl⟩, rfl⟩
            simp! only [leave_int0 hc, leave_int hc, leave_bl0 hc, leave_bl hc, leave_str0 hc, leave_str hc, leave_non0 hc, leave_non hc, leave_tup0 hc, leave_tup hc, takeX hc, takeX0 hc]
            have : s.cps.toList.all isLet = true := by
              rw [List.all_eq_true]
              intro x hx
              obtain ⟨j, hj, e⟩ := List.mem_iff_getElem.mp hx
              exact hk j (by simpa using hj) x (by rw [List.getElem?_eq_getElem hj, e])
            have a1 : 1 ≤ s.length := by omega
            have a2 : s.length ≤ 8 := by omega
            simp only [isName, isNm, this, a1, a2, decide_true, Bool.and_true]
        · simp! only [leave_int0 hc, leave_int hc, leave_bl0 hc, leave_bl hc, leave_str0 hc, leave_str hc, leave_non0 hc, leave_non hc, leave_tup0 hc, leave_tup hc, takeX hc, takeX0 hc, h2]
          have a2 : ¬ s.length ≤ 8 := by omega
          simp [isName, isNm, a2]
      · simp! only [leave_int0 hc, leave_int hc, leave_bl0 hc, leave_bl hc, leave_str0 hc, leave_str hc, leave_non0 hc, leave_non hc, leave_tup0 hc, leave_tup hc, takeX hc, takeX0 hc, h1]
        have a1 : ¬ 1 ≤ s.length := by omega
        simp [isName, isNm, a1]
    | tup b => simp! only [leave_int0 hc, leave_int hc, leave_bl0 hc, leave_bl hc, leave_str0 hc, leave_str hc, leave_non0 hc, leave_non hc, leave_tup0 hc, leave_tup hc, takeX hc, takeX0 hc]; rfl
    | non => simp! only [leave_int0 hc, leave_int hc, leave_bl0 hc, leave_bl hc, leave_str0 hc, leave_str hc, leave_non0 hc, leave_non hc, leave_tup0 hc, leave_tup hc, takeX hc, takeX0 hc]; rfl
    | bl b => simp! only [leave_int0 hc, leave_int hc, leave_bl0 hc, leave_bl hc, leave_str0 hc, leave_str hc, leave_non0 hc, leave_non hc, leave_tup0 hc, leave_tup hc, takeX hc, takeX0 hc]; rfl
    | int b => simp! only [leave_int0 hc, leave_int hc, leave_bl0 hc, leave_bl hc, leave_str0 hc, leave_str hc, leave_non0 hc, leave_non hc, leave_tup0 hc, leave_tup hc, takeX hc, takeX0 hc]; rfl
    | _ => cases hp
  · simp! only [leave_int0 hc, leave_int hc, leave_bl0 hc, leave_bl hc, leave_str0 hc, leave_str hc, leave_non0 hc, leave_non hc, leave_tup0 hc, leave_tup hc, takeX hc, takeX0 hc, isTy_rl_str hk]; rfl
end Pg
end
section
set_option Elab.async false
set_option linter.all false
set_option maxRecDepth 100000
set_option maxHeartbeats 2000000
namespace Pg
open Ev
local macro_rules
  | `(tactic| simp! only [$as,*] $[$l]?) => `(tactic| simp only [wpB_cons, wpB_nil, wpS_set, wpS_setT, wpS_par, wpS_setI, wpS_expr, wpS_ret, wpS_ife, wpS_raise, wpS_try, wpS_aug, wpE_var, wpE_cst, wpE_tup, wpE_lst, wpE_dct0, wpE_bin, wpE_neg, wpE_not, wpE_and, wpE_or, wpE_cmp, wpE_cmp2, wpE_is, wpE_ife, wpE_idx, wpE_sl, wpE_call, wpE_blt, wpE_mth, wpE_isi, wpEs_nil, wpEs_cons, wpR_ok, wpR_ex, wpO_some, wpO_map, wpT_true, wpT_false, wpT_not, wpIfs_nil, wpIfs_one, getV_0, getV_s, List.set_cons_succ, List.set_cons_zero, g0_F, g0_isa, truth_non, truth_bl, truth_int, truth_tup, truth_lst, truth_fz, Option.map_some, Option.isSome_some, if_true, Bool.false_eq_true, if_false, Bool.not_true, Bool.not_false, isPart, setTg, setNames, bin_add, bin_sub, cmp_lt, cmp_gt, cmp_le, cmp_ge, cmp_eq, orD_some, cmp_ne, eq_int, eq_str, abs_int, tuple_seq, list_seq, seqOf_tup, seqOf_lst, seqOf_fz, seqOf_ref, int_bl, mdl, fdl, min2, max2, pu_non, pu_bl, pu_int, pu_str, pu_nil, pu_cons, pure_tup, Bool.and_self, Int.reduceLT, and_true, true_and, decide_true, decide_false, isC_b_non, isC_n_bl, isC_n_int, isC_b_int, isC_n_str, isC_b_str, isC_n_tup, isC_b_tup, isC_n_lst, isC_b_lst, isC_n_fz, isC_b_fz, isC_n_dct, isC_b_dct, isC_n_ref, isC_b_ref, isC_n_exc, isC_b_exc, isC_n_non, isC_true_true_true, isC_true_true_false, isC_true_false_true, isC_true_false_false, isC_false_true_true, isC_false_true_false, isC_false_false_true, isC_false_false_false, isTys_nil, isTys_c, isTy_exv, isTy_exc, isTy_non_int, isTy_non_str, isTy_non_tuple, isTy_non_list, isTy_non_dict, isTy_non_bool, isTy_bl_int, isTy_bl_str, isTy_bl_tuple, isTy_bl_list, isTy_bl_dict, isTy_bl_bool, isTy_int_int, isTy_int_str, isTy_int_tuple, isTy_int_list, isTy_int_dict, isTy_int_bool, isTy_str_int, isTy_str_str, isTy_str_tuple, isTy_str_list, isTy_str_dict, isTy_str_bool, isTy_tup_int, isTy_tup_str, isTy_tup_tuple, isTy_tup_list, isTy_tup_dict, isTy_tup_bool, isTy_lst_int, isTy_lst_str, isTy_lst_tuple, isTy_lst_list, isTy_lst_dict, isTy_lst_bool, isTy_fz_int, isTy_fz_str, isTy_fz_tuple, isTy_fz_list, isTy_fz_dict, isTy_fz_bool, isTy_dct_int, isTy_dct_str, isTy_dct_tuple, isTy_dct_list, isTy_dct_dict, isTy_dct_bool, Option.bind_some, settle_int, settle_str, settle_bl, settle_non, settle_ref, settle_fz, settle_exc, settle_tup, settle_lst, settle_dct, settles_nil, settles_cons, $as,*] $[$l]?)
variable {n : Nat} {S : Sto}
def isKnown (d : D) : Bool := if isTg d "unknown" 3 then isPlace (att d 2) || (isRange (att d 2) || isTg (att d 2) "truth" 1) else
  if isTg d "function" 4 then arePl (att d 2) && (isPlace (att d 3) || isRange (att d 3)) else isTg d "row" 4 && (isPlace (att d 2) && isPlace (att d 3))
def isDecl (d : D) : Bool := isKnown d && isName (att d 1)
theorem c_is_declaration {d : D} (ht : Th S d) (hs : ∀ s, att d 1 = .str s → s.length ≤ 16777216) (hc : Cl S) : F (n + 4) 6 [d] S = some (.ok (.bl (isDecl d)) S) := by
  refine wpR_is (e_is_declaration (by simp only [settle_int, settle_str, settle_bl, settle_non, settle_ref, settle_fz, settle_exc, settle_tup, settle_lst, settle_dct, settles_nil, settles_cons, settle_settled _ _ ht.settled]; rfl) ?_)
  unfold b_is_declaration
  have t1 := c_is_tagged (n := n + 2) (tag := "unknown") (long := 3) ht (by decide) hc
  have t2 := c_is_tagged (n := n + 2) (tag := "function") (long := 4) ht (by decide) hc
  have t3 := c_is_tagged (n := n + 2) (tag := "row") (long := 4) ht (by decide) hc
  simp! only [t1]
  refine wpT_i (fun h => ?_) fun h => ?_
  · obtain ⟨ds, rfl, hl⟩ := tg_at h
    match ds, hl with
    | [x, y], _ =>
      have hx := ht.parts x (by simp)
      have hy := ht.parts y (by simp)
      have q1 := c_is_place (n := n + 1) hy hc
      have q2 := c_is_range (n := n + 1) hy hc
      have q3 := c_is_tagged (n := n + 2) (tag := "truth") (long := 1) hy.th (by decide) hc
      have q4 := c_is_name (n := n + 2) hx hs hc
      have e : isDecl (.tup [.str "unknown", x, y]) = ((isPlace y || (isRange y || isTg y "truth" 1)) && isName x) := by
        simp only [isDecl, isKnown, h, if_true, att]; rfl
      rw [e]
      generalize isPlace y = b1 at q1 ⊢
      generalize isRange y = b2 at q2 ⊢
      generalize isTg y "truth" 1 = b3 at q3 ⊢
      cases b1 <;> cases b2 <;> cases b3 <;> simp! only [get_app, get_app0, set_app, set_app0, mutOf_r, listOf_r, dictOf_r, idx_r, idx_l, idx_f, idx_tup, mth_append, mth_pop, rcv_append, rcv_pop, rcv_extend, atI_0, atI_1, atI_2, atI_3, atI_4, add_rl, add_lr, add_ll, List.getElem?_cons_zero, List.getElem?_cons_succ, q1, q2, q3, q4, leave_int0 hc, leave_int hc, leave_bl0 hc, leave_bl hc, leave_str0 hc, leave_str hc, leave_non0 hc, leave_non hc, leave_tup0 hc, leave_tup hc, takeX hc, takeX0 hc] <;> rfl
  · simp! only [t2]
    refine wpT_i (fun h2 => ?_) fun h2 => ?_
    · obtain ⟨ds, rfl, hl⟩ := tg_at h2
      match ds, hl with
      | [x, y, z], _ =>
        have hx := ht.parts x (by simp)
        have hy := ht.parts y (by simp)
        have hz := ht.parts z (by simp)
        have q1 := c_are_places (n := n) hy hc
        have q2 := c_is_place (n := n + 1) hz hc
        have q3 := c_is_range (n := n + 1) hz hc
        have q4 := c_is_name (n := n + 2) hx hs hc
        have e : isDecl (.tup [.str "function", x, y, z]) = ((arePl y && (isPlace z || isRange z)) && isName x) := by
          simp only [isDecl, isKnown, h, h2, if_true, att]; rfl
        rw [e]
        generalize arePl y = b1 at q1 ⊢
        generalize isPlace z = b2 at q2 ⊢
        generalize isRange z = b3 at q3 ⊢
        cases b1 <;> cases b2 <;> cases b3 <;> simp! only [get_app, get_app0, set_app, set_app0, mutOf_r, listOf_r, dictOf_r, idx_r, idx_l, idx_f, idx_tup, mth_append, mth_pop, rcv_append, rcv_pop, rcv_extend, atI_0, atI_1, atI_2, atI_3, atI_4, add_rl, add_lr, add_ll, List.getElem?_cons_zero, List.getElem?_cons_succ, q1, q2, q3, q4, leave_int0 hc, leave_int hc, leave_bl0 hc, leave_bl hc, leave_str0 hc, leave_str hc, leave_non0 hc, leave_non hc, leave_tup0 hc, leave_tup hc, takeX hc, takeX0 hc] <;> rfl
    · simp! only [t3]
      refine wpT_i (fun h3 => ?_) fun h3 => ?_
      · obtain ⟨ds, rfl, hl⟩ := tg_at h3
        match ds, hl with
        | [x, y, z], _ =>
          have hx := ht.parts x (by simp)
          have hy := ht.parts y (by simp)
          have hz := ht.parts z (by simp)
          have q1 := c_is_place (n := n + 1) hy hc
          have q2 := c_is_place (n := n + 1) hz hc
          have q4 := c_is_name (n := n + 2) hx hs hc
          have e : isDecl (.tup [.str "row", x, y, z]) = ((isPlace y && isPlace z) && isName x) := by
            simp only [isDecl, isKnown, h, h2, h3, if_true, att]; rfl
          rw [e]
          generalize isPlace y = b1 at q1 ⊢
          generalize isPlace z = b2 at q2 ⊢
          cases b1 <;> cases b2 <;> simp! only [get_app, get_app0, set_app, set_app0, mutOf_r, listOf_r, dictOf_r, idx_r, idx_l, idx_f, idx_tup, mth_append, mth_pop, rcv_append, rcv_pop, rcv_extend, atI_0, atI_1, atI_2, atI_3, atI_4, add_rl, add_lr, add_ll, List.getElem?_cons_zero, List.getElem?_cons_succ, t3, h3, q1, q2, q4, leave_int0 hc, leave_int hc, leave_bl0 hc, leave_bl hc, leave_str0 hc, leave_str hc, leave_non0 hc, leave_non hc, leave_tup0 hc, leave_tup hc, takeX hc, takeX0 hc] <;> rfl
      · have e : isDecl d = false := by simp [isDecl, isKnown, h, h2, h3]
        rw [e]
        simp! only [h3, leave_int0 hc, leave_int hc, leave_bl0 hc, leave_bl hc, leave_str0 hc, leave_str hc, leave_non0 hc, leave_non hc, leave_tup0 hc, leave_tup hc, takeX hc, takeX0 hc]
end Pg
end
section
set_option Elab.async false
set_option linter.all false
set_option maxRecDepth 100000
set_option maxHeartbeats 2000000
namespace Pg
open Ev
local macro_rules
  | `(tactic| simp! only [$as,*] $[$l]?) => `(tactic| simp only [wpB_cons, wpB_nil, wpS_set, wpS_setT, wpS_par, wpS_setI, wpS_expr, wpS_ret, wpS_ife, wpS_raise, wpS_try, wpS_aug, wpE_var, wpE_cst, wpE_tup, wpE_lst, wpE_dct0, wpE_bin, wpE_neg, wpE_not, wpE_and, wpE_or, wpE_cmp, wpE_cmp2, wpE_is, wpE_ife, wpE_idx, wpE_sl, wpE_call, wpE_blt, wpE_mth, wpE_isi, wpEs_nil, wpEs_cons, wpR_ok, wpR_ex, wpO_some, wpO_map, wpT_true, wpT_false, wpT_not, wpIfs_nil, wpIfs_one, getV_0, getV_s, List.set_cons_succ, List.set_cons_zero, g0_F, g0_isa, truth_non, truth_bl, truth_int, truth_tup, truth_lst, truth_fz, Option.map_some, Option.isSome_some, if_true, Bool.false_eq_true, if_false, Bool.not_true, Bool.not_false, isPart, setTg, setNames, bin_add, bin_sub, cmp_lt, cmp_gt, cmp_le, cmp_ge, cmp_eq, orD_some, cmp_ne, eq_int, eq_str, abs_int, tuple_seq, list_seq, seqOf_tup, seqOf_lst, seqOf_fz, seqOf_ref, int_bl, mdl, fdl, min2, max2, pu_non, pu_bl, pu_int, pu_str, pu_nil, pu_cons, pure_tup, Bool.and_self, Int.reduceLT, and_true, true_and, decide_true, decide_false, isC_b_non, isC_n_bl, isC_n_int, isC_b_int, isC_n_str, isC_b_str, isC_n_tup, isC_b_tup, isC_n_lst, isC_b_lst, isC_n_fz, isC_b_fz, isC_n_dct, isC_b_dct, isC_n_ref, isC_b_ref, isC_n_exc, isC_b_exc, isC_n_non, isC_true_true_true, isC_true_true_false, isC_true_false_true, isC_true_false_false, isC_false_true_true, isC_false_true_false, isC_false_false_true, isC_false_false_false, isTys_nil, isTys_c, isTy_exv, isTy_exc, isTy_non_int, isTy_non_str, isTy_non_tuple, isTy_non_list, isTy_non_dict, isTy_non_bool, isTy_bl_int, isTy_bl_str, isTy_bl_tuple, isTy_bl_list, isTy_bl_dict, isTy_bl_bool, isTy_int_int, isTy_int_str, isTy_int_tuple, isTy_int_list, isTy_int_dict, isTy_int_bool, isTy_str_int, isTy_str_str, isTy_str_tuple, isTy_str_list, isTy_str_dict, isTy_str_bool, isTy_tup_int, isTy_tup_str, isTy_tup_tuple, isTy_tup_list, isTy_tup_dict, isTy_tup_bool, isTy_lst_int, isTy_lst_str, isTy_lst_tuple, isTy_lst_list, isTy_lst_dict, isTy_lst_bool, isTy_fz_int, isTy_fz_str, isTy_fz_tuple, isTy_fz_list, isTy_fz_dict, isTy_fz_bool, isTy_dct_int, isTy_dct_str, isTy_dct_tuple, isTy_dct_list, isTy_dct_dict, isTy_dct_bool, Option.bind_some, settle_int, settle_str, settle_bl, settle_non, settle_ref, settle_fz, settle_exc, settle_tup, settle_lst, settle_dct, settles_nil, settles_cons, $as,*] $[$l]?)
variable {n : Nat} {S : Sto}
/-! ### dicts of names -/
def dN (K : List PySem.Str) : D := .dct (K.map .str) (K.map fun _ => .bl true)
theorem find_str (nm : PySem.Str) : ∀ K : List PySem.Str, Ev.find (K.map .str) (.str nm) = K.findIdx? fun x => decide (x = nm)
  | [] => rfl
  | x :: K => by
    have ih := find_str nm K
    unfold Ev.find at ih ⊢
    rw [List.map_cons, List.findIdx?_cons, List.findIdx?_cons, ih]
    rfl
theorem find_mem (nm : PySem.Str) (K : List PySem.Str) : (Ev.find (K.map .str) (.str nm)).isSome = decide (nm ∈ K) := by
  rw [find_str, List.findIdx?_isSome, Bool.eq_iff_iff]
  simp
theorem in_dN {i : Nat} {K : List PySem.Str} {nm : PySem.Str} (hS : S[i]? = some (dN K)) : inE S (.str nm) (.ref i) = some (decide (nm ∈ K)) := by
  show (match Ev.seqOf S (.ref i) with | some ds => inL S (.str nm) ds | none => match Ev.dictOf S (.ref i) with | some (ks, _) => if keyOk (.str nm) then some (Ev.find ks (.str nm)).isSome else none | none => none) = _
  rw [seqOf_ref, listOf_refd hS, dictOf_ref hS]
  show (if keyOk (.str nm) then some (Ev.find (K.map .str) (.str nm)).isSome else none) = _
  rw [find_mem]; rfl
theorem put_new {K : List PySem.Str} {nm : PySem.Str} (h : nm ∉ K) : Ev.putK (K.map .str) (K.map fun _ => .bl true) (.str nm) (.bl true) = ((K ++ [nm]).map .str, (K ++ [nm]).map fun _ => .bl true) := by
  unfold Ev.putK
  have hf : Ev.find (K.map .str) (.str nm) = none := by
    have := find_mem nm K
    cases e : Ev.find (K.map .str) (.str nm) with
    | none => rfl
    | some j => rw [e] at this; simp [h] at this
  rw [hf]
  simp
theorem dN_under (b : Nat) (K : List PySem.Str) : (dN K).under b = true := by
  unfold dN D.under
  rw [unders_all, unders_all]
  simp [D.under]
theorem setI_new {i : Nat} {K : List PySem.Str} {nm : PySem.Str} (hS : S[i]? = some (dN K)) (hl : K.length < 16777216) (h : nm ∉ K) : setItE (.ref i) (.str nm) (.bl true) S = some (S.set i (dN (K ++ [nm]))) := by
  have hk : (keyOk (.str nm) && decide ((K.map D.str).length < 16777216)) = true := by
    rw [List.length_map]
    simp [keyOk]; omega
  unfold dN at hS
  unfold setItE
  simp only [hS, hk, if_true, settle, put_new h, dN]
/-! ### what is laid behind stays -/
theorem Pl.app {d : D} {l : Sto} (h : Pl S d) : Pl (S ++ l) d := by
  rcases h with h | ⟨k, ds, rfl, hk⟩
  · exact .inl h
  · exact .inr ⟨k, ds, rfl, get_base' hk⟩
where
  get_base' {k : Nat} {o : D} {l : Sto} (h : S[k]? = some o) : (S ++ l)[k]? = some o := by
    rw [List.getElem?_append_left (List.getElem?_eq_some_iff.mp h).1, h]
theorem get_b {k : Nat} {o : D} {l : Sto} (h : S[k]? = some o) : (S ++ l)[k]? = some o := by
  rw [List.getElem?_append_left (List.getElem?_eq_some_iff.mp h).1, h]
theorem Th.app {d : D} {l : Sto} (h : Th S d) : Th (S ++ l) d := by
  rcases h with h | ⟨ds, rfl, h⟩
  · exact .inl h.app
  · exact .inr ⟨ds, rfl, fun x m => (h x m).app⟩
theorem Pl.under {d : D} (h : Pl S d) : d.under S.length = true := by
  rcases h with h | ⟨k, ds, rfl, hk⟩
  · exact pure_under _ d h
  · unfold D.under
    exact decide_eq_true (List.getElem?_eq_some_iff.mp hk).1
theorem Th.under {d : D} (h : Th S d) : d.under S.length = true := by
  rcases h with h | ⟨ds, rfl, h⟩
  · exact h.under
  · unfold D.under
    rw [unders_all, List.all_eq_true]
    exact fun x m => (h x m).under
theorem leave_under {l : Sto} {d : D} (hc : Cl S) (h : d.under S.length = true) : leave S.length d (S ++ l) = some (.ok d S) := by
  unfold leave
  rw [if_pos (closed_of hc)]
  unfold reify taken
  rw [h]
  simp
/-! ### made_world -/
def nmOf (d : D) : PySem.Str := match att d 1 with
  | .str s => s
  | _ => ""
def goodW : List PySem.Str → List D → Bool
  | _, [] => true
  | K, d :: ds => isDecl d && (decide (nmOf d ∉ K) && goodW (K ++ [nmOf d]) ds)
theorem decl_name {d : D} (h : isDecl d = true) : ∃ ds tag, d = .tup (.str tag :: .str (nmOf d) :: ds) := by
  unfold isDecl at h
  obtain ⟨h1, h2⟩ := Bool.and_eq_true_iff.mp h
  have key : ∀ (tag : PySem.Str) (long : Int), 2 ≤ long → isTg d tag long = true → ∃ ds tag, d = .tup (.str tag :: .str (nmOf d) :: ds) := fun tag long hl ht => by
    obtain ⟨ds, rfl, hl2⟩ := tg_at ht
    cases ds with
    | nil => simp at hl2; omega
    | cons x ds =>
      have h2' : isName x = true := h2
      cases x with
      | str s => exact ⟨ds, tag, rfl⟩
      | _ => cases h2'
  unfold isKnown at h1
  by_cases a : isTg d "unknown" 3 = true
  · exact key _ _ (by decide) a
  · rw [if_neg a] at h1
    by_cases b : isTg d "function" 4 = true
    · exact key _ _ (by decide) b
    · rw [if_neg b] at h1
      exact key _ _ (by decide) (Bool.and_eq_true_iff.mp h1).1
/-- a list of the store, or a tuple, with these items -/
def Its (S : Sto) (dv : D) (its : List D) : Prop := dv = .tup its ∨ ∃ j, dv = .ref j ∧ S[j]? = some (.lst its)
theorem Its.app {dv : D} {its : List D} {l : Sto} (h : Its S dv its) : Its (S ++ l) dv its := by
  rcases h with h | ⟨j, h1, h2⟩
  · exact .inl h
  · exact .inr ⟨j, h1, get_b h2⟩
theorem Its.seq {dv : D} {its : List D} (h : Its S dv its) : Ev.seqOf S dv = some its := by
  rcases h with rfl | ⟨j, rfl, h2⟩
  · rfl
  · rw [seqOf_ref, listOf_ref h2]
theorem Its.items {dv : D} {its : List D} (h : Its S dv its) : ∃ lk, itemsOf S .val [dv] = some (its, lk) ∧ ∀ S', Its S' dv its → stays lk S' := by
  rcases h with rfl | ⟨j, rfl, h2⟩
  · exact ⟨none, rfl, fun _ _ => trivial⟩
  · refine ⟨some (j, its), items_ref h2, fun S' h' => ?_⟩
    rcases h' with e | ⟨j', e, h3⟩
    · cases e
    · cases e; exact h3
theorem good_split {K : List PySem.Str} : ∀ {its : List D} {k : Nat} {x : D} {K' : List PySem.Str}, its[k]? = some x → (goodW K its = goodW K' (its.drop k)) → goodW K its = (isDecl x && (decide (nmOf x ∉ K') && goodW (K' ++ [nmOf x]) (its.drop (k + 1)))) := fun {its k x K'} hx h => by
  rw [h]
  have hl := (List.getElem?_eq_some_iff.mp hx).1
  rw [List.drop_eq_getElem_cons hl]
  have : its[k] = x := (List.getElem?_eq_some_iff.mp hx).2
  rw [this]; rfl
theorem c_made_world {dv : D} {its : List D} (hd : Its S dv its) (hth : ∀ x ∈ its, Th S x) (hs : ∀ x ∈ its, ∀ s, att x 1 = .str s → s.length ≤ 16777216) (hc : Cl S) (hst : dv.settled = true) :
    F (n + 5) 7 [dv] S = if (decide (its.length ≤ 24) && goodW [] its) = true then some (.ok (.tup its) S) else some (.ex 1 S) := by
  have core : ∀ {Q : D → Sto → Prop} {X : Nat → Sto → Prop}, ((decide (its.length ≤ 24) && goodW [] its) = true → Q (.tup its) S) → ((decide (its.length ≤ 24) && goodW [] its) = false → X 1 S) → wpR Q X (F (n + 5) 7 [dv] S) := fun {Q X} hq hx => by
    refine e_made_world (by simp only [settle_int, settle_str, settle_bl, settle_non, settle_ref, settle_fz, settle_exc, settle_tup, settle_lst, settle_dct, settles_nil, settles_cons, settle_settled _ _ hst]; rfl) ?_
    unfold b_made_world
    have hl : bltE S .len [dv] = some (.int its.length) := len_seq hd.seq
    have hty : isTys (isaX 5) S dv [.list, .tuple] = some true := by
      rcases hd with rfl | ⟨j, rfl, h2⟩
      · simp! only [wpB_nil]
      · simp! only [isTy_rl_list h2]
    simp only [wpB_cons, wpS_ife, wpE_or, wpE_not, wpE_isi, wpE_var, getV_0, wpO_some, g0_isa, hty]
    simp! only [hl]
    refine wpT_d (fun h => ?_) fun h => ?_
    · simp! only [leave_int0 hc, leave_int hc, leave_bl0 hc, leave_bl hc, leave_str0 hc, leave_str hc, leave_non0 hc, leave_non hc, leave_tup0 hc, leave_tup hc, takeX hc, takeX0 hc]
      exact hx (by
        have : ¬ its.length ≤ 24 := by omega
        simp [this])
    · have hlen : its.length ≤ 24 := by omega
      have hb : (decide (its.length ≤ 24) && goodW [] its) = goodW [] its := by simp [hlen]
      rw [hb] at hq hx
      simp! only [wpB_nil]
      refine wp_for (fun k ρ S' => ∃ K kv, goodW [] its = goodW K (its.drop k) ∧ K.length = k ∧ ρ = [some dv, some (.ref S.length), kv] ∧ S' = S ++ [dN K]) ?_
      simp! only [wpB_nil]
      obtain ⟨lk, hi, hlk⟩ := (hd.app (l := [.dct [] []])).items
      refine ⟨its, lk, hi, ?_, ⟨[], none, rfl, rfl, rfl, rfl⟩, ?_, ?_, ?_⟩
      · rw [settleds_all, List.all_eq_true]
        exact fun x m => (hth x m).settled
      · rintro k ρ S' ⟨K, kv, _, _, _, rfl⟩
        exact hlk _ hd.app
      · rintro k x ρ S' hx0 ⟨K, kv, hg, hK, rfl, rfl⟩
        have hm := List.mem_of_getElem? hx0
        have hcl : Cl (S ++ [dN K]) := hc.app (by simp [unders, dN_under])
        have h6 := c_is_declaration (n := n) (hth x hm).app (hs x hm) hcl
        have hsp := good_split hx0 hg
        simp! only [h6]
        refine wpT_i (fun h7 => ?_) fun h7 => ?_
        · obtain ⟨ds, tag, e⟩ := decl_name h7
          have hat : ∀ S, idxE S x (.int 1) = some (.str (nmOf x)) := fun S => by
            conv => lhs; rw [e]
            rfl
          have hget : (S ++ [dN K])[S.length]? = some (dN K) := by simp
          simp! only [hat, cmp_in, in_dN hget]
          refine wpT_d (fun h8 => ?_) fun h8 => ?_
          · simp! only [leave_int0 hc, leave_int hc, leave_bl0 hc, leave_bl hc, leave_str0 hc, leave_str hc, leave_non0 hc, leave_non hc, leave_tup0 hc, leave_tup hc, takeX hc, takeX0 hc]
            exact hx (by rw [hsp]; simp [h8])
          · have hkl := (List.getElem?_eq_some_iff.mp hx0).1
            simp! only [hat, setI_new hget (by omega) h8, set_app0, List.set_cons_zero]
            exact ⟨K ++ [nmOf x], some x, by rw [hsp]; simp [h7, h8], by simp [hK], rfl, rfl⟩
        · simp! only [leave_int0 hc, leave_int hc, leave_bl0 hc, leave_bl hc, leave_str0 hc, leave_str hc, leave_non0 hc, leave_non hc, leave_tup0 hc, leave_tup hc, takeX hc, takeX0 hc, h7]
          exact hx (by rw [hsp]; simp [h7])
      · rintro ρ S' ⟨K, kv, hg, hK, rfl, rfl⟩
        have hsq : Ev.seqOf (S ++ [dN K]) dv = some its := hd.app.seq
        have hu : (D.tup its).under S.length = true := by
          unfold D.under
          rw [unders_all, List.all_eq_true]
          exact fun x m => (hth x m).under
        simp only [wpB_cons, wpS_ret, wpE_blt, wpEs_cons, wpE_var, getV_0, wpO_some, wpEs_nil, tuple_seq, hsq, Option.map_some, leave_under hc hu, wpR_ok]
        refine hq ?_
        rw [hg, List.drop_length]; rfl
  by_cases h : (decide (its.length ≤ 24) && goodW [] its) = true
  · rw [if_pos h]
    exact wpR_is (core (fun _ => ⟨rfl, rfl⟩) fun h' => by rw [h] at h'; cases h')
  · rw [if_neg h]
    exact wpR_isX (core (fun h' => absurd h' h) fun _ => ⟨rfl, rfl⟩)
theorem c_made_no {dv : D} (hst : dv.settled = true) (hty : isTys (isaX 5) S dv [.list, .tuple] = some false) (hc : Cl S) : F (n + 1) 7 [dv] S = some (.ex 1 S) := by
  refine wpR_isX (e_made_world (by simp only [settle_int, settle_str, settle_bl, settle_non, settle_ref, settle_fz, settle_exc, settle_tup, settle_lst, settle_dct, settles_nil, settles_cons, settle_settled _ _ hst]; rfl) ?_)
  unfold b_made_world
  simp only [wpB_cons, wpS_ife, wpE_or, wpE_not, wpE_isi, wpE_var, getV_0, wpO_some, g0_isa, hty]
  simp! only [leave_int0 hc, leave_int hc, leave_bl0 hc, leave_bl hc, leave_str0 hc, leave_str hc, leave_non0 hc, leave_non hc, leave_tup0 hc, leave_tup hc, takeX hc, takeX0 hc]
end Pg
end
section
set_option Elab.async false
set_option linter.all false
set_option maxRecDepth 100000
set_option maxHeartbeats 4000000
namespace Ev
open PySem
/-! ### texts -/
variable {S : Sto}
theorem strsOf_map : ∀ ys : List Str, strsOf (ys.map .str) = some ys
  | [] => rfl
  | y :: ys => by rw [List.map_cons, strsOf, strsOf_map ys]; rfl
theorem sum_len {B : Nat} : ∀ ys : List Str, (∀ y ∈ ys, y.length ≤ B) → (ys.map (·.length)).sum ≤ ys.length * B
  | [], _ => by simp
  | y :: ys, h => by
    have h1 := h y List.mem_cons_self
    have h2 := sum_len ys fun z m => h z (List.mem_cons_of_mem _ m)
    rw [List.map_cons, List.sum_cons, List.length_cons, Nat.succ_mul]; omega
theorem join_len {x : Str} {ys : List Str} {B N : Nat} (h1 : ∀ y ∈ ys, y.length ≤ B) (h2 : ys.length ≤ N) : (Txt.join x ys).length ≤ N * (B + x.length) := by
  rw [TL.join_eq]
  have := StrLaws.join_length_le x ys
  have h3 := sum_len ys h1
  have h4 : ys.length * B + ys.length * x.length = ys.length * (B + x.length) := by rw [Nat.mul_add]
  have h5 : ys.length * (B + x.length) ≤ N * (B + x.length) := Nat.mul_le_mul_right _ h2
  omega
theorem join_do {x : Str} {ys : List Str} {v : D} {B N : Nat} (hv : (listOf S v).bind strsOf = some ys) (h1 : ∀ y ∈ ys, y.length ≤ B) (h2 : ys.length ≤ N) (h3 : N * (B + x.length) ≤ 16777216) : mthE .join (.str x) [v] S = some (.str (Txt.join x ys), S) := by
  have h4 := sum_len ys h1
  have h5 : ys.length * B + ys.length * x.length = ys.length * (B + x.length) := by rw [Nat.mul_add]
  have h6 : ys.length * (B + x.length) ≤ N * (B + x.length) := Nat.mul_le_mul_right _ h2
  show (match (listOf S v).bind strsOf with | some ys => if decide ((ys.map fun y : Str => y.length).sum + ys.length * x.length ≤ 16777216) then some (D.str (Txt.join x ys), S) else none | none => none) = _
  rw [hv]
  exact if_pos (decide_eq_true (by omega))
theorem join_lst {x : Str} {ys : List Str} {B N : Nat} (h1 : ∀ y ∈ ys, y.length ≤ B) (h2 : ys.length ≤ N) (h3 : N * (B + x.length) ≤ 16777216) : mthE .join (.str x) [.lst (ys.map .str)] S = some (.str (Txt.join x ys), S) :=
  join_do (by show strsOf (ys.map .str) = _; exact strsOf_map ys) h1 h2 h3
theorem join_ref {x : Str} {ys : List Str} {B N k : Nat} (hk : S[k]? = some (.lst (ys.map .str))) (h1 : ∀ y ∈ ys, y.length ≤ B) (h2 : ys.length ≤ N) (h3 : N * (B + x.length) ≤ 16777216) : mthE .join (.str x) [.ref k] S = some (.str (Txt.join x ys), S) :=
  join_do (by rw [listOf_ref hk]; exact strsOf_map ys) h1 h2 h3
theorem joinL_mem {c : Nat} {sep : List Nat} : ∀ {ps : List (List Nat)}, c ∈ TL.joinL sep ps → c ∈ sep ∨ ∃ p ∈ ps, c ∈ p
  | [], h => by cases h
  | [p], h => .inr ⟨p, by simp, h⟩
  | p :: q :: r, h => by
    have h' : c ∈ p ++ (sep ++ TL.joinL sep (q :: r)) := h
    rcases List.mem_append.mp h' with h | h
    · exact .inr ⟨p, by simp, h⟩
    · rcases List.mem_append.mp h with h | h
      · exact .inl h
      · rcases joinL_mem h with h | ⟨p', m, h⟩
        · exact .inl h
        · exact .inr ⟨p', List.mem_cons_of_mem _ m, h⟩
theorem join_mem {c : Nat} {y : Str} {ps : List Str} (h : c ∈ TL.tl (Txt.join y ps)) : c ∈ TL.tl y ∨ ∃ p ∈ ps, c ∈ TL.tl p := by
  rw [TL.join_eq, TL.tl_join] at h
  rcases joinL_mem h with h | ⟨p, m, h⟩
  · exact .inl h
  · obtain ⟨z, hz, rfl⟩ := List.mem_map.mp m
    exact .inr ⟨z, hz, h⟩
theorem split_do {y : Str} {s : Nat} {T : List Nat} {ps : List Str} (ey : TL.tl y = s :: T) (hk : y.cps.all (· < 256) = true) (hne : ps ≠ []) (hp : ∀ p ∈ ps, s ∉ TL.tl p) (hl : (Txt.join y ps).length + 2 ≤ 16777216) : mthE .split (.str (Txt.join y ps)) [.str y] S = some (.lst (ps.map .str), S) := by
  have h0 : (y.length == 0) = false := by
    rw [TL.len_tl, ey]; rfl
  show (if (y.length == 0) = false ∧ (Txt.join y ps).length + 2 ≤ 16777216 then some (D.lst ((Txt.split (Txt.join y ps) y).map .str), S) else none) = _
  rw [if_pos ⟨h0, hl⟩, TL.split_join ey hk hne hp]
theorem rcv_str {m : Mth} {x : Str} (h : m = .join ∨ m = .split ∨ m = .startswith ∨ m = .partition) : recvOk m (.str x) S = true := by
  rcases h with rfl | rfl | rfl | rfl <;> rfl
theorem rcv_join {x : Str} : recvOk .join (.str x) S = true := rfl
theorem rcv_split {x : Str} : recvOk .split (.str x) S = true := rfl
theorem rcv_starts {x : Str} : recvOk .startswith (.str x) S = true := rfl
theorem mth_starts {x y : Str} : mthE .startswith (.str x) [.str y] S = some (.bl (Txt.startswith x y), S) := rfl
theorem sl_str1 {x : Str} (h : x.length ≤ 16777216) (h1 : 1 ≤ x.length) : slE S (.str x) (.int 1) .non = some (.str ⟨((TL.tl x).drop 1).toArray⟩) := by
  show (if x.length ≤ 16777216 then some (D.str ⟨(cut x.cps.toList (min 1 x.length) x.length).toArray⟩) else none) = _
  rw [if_pos h, Nat.min_eq_left h1]
  unfold cut
  have hx : x.length = x.cps.toList.length := TL.len_tl x
  rw [List.take_of_length_le (by rw [List.length_drop]; omega)]
theorem strs_pure (ys : List Str) : pures (ys.map D.str) = true := pures_of fun d hd => by
  obtain ⟨s, _, rfl⟩ := List.mem_map.mp hd
  rfl
end Ev
namespace Pg
open Ev
local macro_rules
  | `(tactic| simp! only [$as,*] $[$l]?) => `(tactic| simp only [wpB_cons, wpB_nil, wpS_set, wpS_setT, wpS_par, wpS_setI, wpS_expr, wpS_ret, wpS_ife, wpS_raise, wpS_try, wpS_aug, wpE_var, wpE_cst, wpE_tup, wpE_lst, wpE_dct0, wpE_bin, wpE_neg, wpE_not, wpE_and, wpE_or, wpE_cmp, wpE_cmp2, wpE_is, wpE_ife, wpE_idx, wpE_sl, wpE_call, wpE_blt, wpE_mth, wpE_isi, wpEs_nil, wpEs_cons, wpR_ok, wpR_ex, wpO_some, wpO_map, wpT_true, wpT_false, wpT_not, wpIfs_nil, wpIfs_one, getV_0, getV_s, List.set_cons_succ, List.set_cons_zero, g0_F, g0_isa, truth_non, truth_bl, truth_int, truth_tup, truth_lst, truth_fz, Option.map_some, Option.isSome_some, if_true, Bool.false_eq_true, if_false, Bool.not_true, Bool.not_false, isPart, setTg, setNames, bin_add, bin_sub, cmp_lt, cmp_gt, cmp_le, cmp_ge, cmp_eq, orD_some, cmp_ne, eq_int, eq_str, abs_int, tuple_seq, list_seq, seqOf_tup, seqOf_lst, seqOf_fz, seqOf_ref, int_bl, mdl, fdl, min2, max2, pu_non, pu_bl, pu_int, pu_str, pu_nil, pu_cons, pure_tup, Bool.and_self, Int.reduceLT, and_true, true_and, decide_true, decide_false, isC_b_non, isC_n_bl, isC_n_int, isC_b_int, isC_n_str, isC_b_str, isC_n_tup, isC_b_tup, isC_n_lst, isC_b_lst, isC_n_fz, isC_b_fz, isC_n_dct, isC_b_dct, isC_n_ref, isC_b_ref, isC_n_exc, isC_b_exc, isC_n_non, isC_true_true_true, isC_true_true_false, isC_true_false_true, isC_true_false_false, isC_false_true_true, isC_false_true_false, isC_false_false_true, isC_false_false_false, isTys_nil, isTys_c, isTy_exv, isTy_exc, isTy_non_int, isTy_non_str, isTy_non_tuple, isTy_non_list, isTy_non_dict, isTy_non_bool, isTy_bl_int, isTy_bl_str, isTy_bl_tuple, isTy_bl_list, isTy_bl_dict, isTy_bl_bool, isTy_int_int, isTy_int_str, isTy_int_tuple, isTy_int_list, isTy_int_dict, isTy_int_bool, isTy_str_int, isTy_str_str, isTy_str_tuple, isTy_str_list, isTy_str_dict, isTy_str_bool, isTy_tup_int, isTy_tup_str, isTy_tup_tuple, isTy_tup_list, isTy_tup_dict, isTy_tup_bool, isTy_lst_int, isTy_lst_str, isTy_lst_tuple, isTy_lst_list, isTy_lst_dict, isTy_lst_bool, isTy_fz_int, isTy_fz_str, isTy_fz_tuple, isTy_fz_list, isTy_fz_dict, isTy_fz_bool, isTy_dct_int, isTy_dct_str, isTy_dct_tuple, isTy_dct_list, isTy_dct_dict, isTy_dct_bool, Option.bind_some, settle_int, settle_str, settle_bl, settle_non, settle_ref, settle_fz, settle_exc, settle_tup, settle_lst, settle_dct, settles_nil, settles_cons, $as,*] $[$l]?)
variable {n : Nat} {S : Sto}
/-! ### an int as a text -/
def figs (i : Int) : List Nat := if PySem.Txt.startswith (toString i) "-" then (TL.tl (toString i)).drop 1 else TL.tl (toString i)
def chkT (i : Int) : Bool := decide (1 ≤ (figs i).length) && decide ((figs i).length ≤ 8) && (figs i).all (fun c => inStr ⟨#[c]⟩ "0123456789") && decide (PySem.intText? (toString i) = some i) && decide ((toString i : PySem.Str).length ≤ 4) && decide (1 ≤ (toString i : PySem.Str).length) && (TL.tl (toString i)).all fun c => c != 58 && c != 32 && c != 59
theorem chk_all : ∀ j : Fin 117, chkT ((j.val : Int) - 50) = true := by decide +kernel
structure IntT (i : Int) : Prop where
  lo : 1 ≤ (figs i).length
  hi : (figs i).length ≤ 8
  dg : ∀ c ∈ figs i, inStr ⟨#[c]⟩ "0123456789" = true
  rd : PySem.intText? (toString i) = some i
  ln : (toString i : PySem.Str).length ≤ 4
  l1 : 1 ≤ (toString i : PySem.Str).length
  ch : ∀ c ∈ TL.tl (toString i), c ≠ 58 ∧ c ≠ 32 ∧ c ≠ 59
  sm : i.natAbs.log2 < 1920
theorem intT {i : Int} (h0 : -50 ≤ i) (h1 : i ≤ 66) : IntT i := by
  have h := chk_all ⟨(i + 50).toNat, by omega⟩
  have e : (((i + 50).toNat : Nat) : Int) - 50 = i := by omega
  simp only [e] at h
  unfold chkT at h
  simp only [Bool.and_eq_true, decide_eq_true_eq, List.all_eq_true, bne_iff_ne, ne_eq] at h
  obtain ⟨⟨⟨⟨⟨⟨a1, a2⟩, a3⟩, a4⟩, a5⟩, a6⟩, a7⟩ := h
  refine ⟨a1, a2, a3, a4, a5, a6, fun c m => ?_, ?_⟩
  · obtain ⟨⟨x, y⟩, z⟩ := a7 c m
    exact ⟨x, y, z⟩
  · by_cases hz : i.natAbs = 0
    · rw [hz]; decide
    · have := (Nat.log2_lt hz).mpr (show i.natAbs < 2 ^ 1920 from Nat.lt_of_le_of_lt (show i.natAbs ≤ 66 by omega) (by decide))
      exact this
theorem c_int_in {i : Int} (h : IntT i) (hc : Cl S) : F (n + 1) 11 [.str (toString i)] S = some (.ok (.int i) S) := by
  refine wpR_is (e_int_in (by simp only [settle_int, settle_str, settle_bl, settle_non, settle_ref, settle_fz, settle_exc, settle_tup, settle_lst, settle_dct, settles_nil, settles_cons]; rfl) ?_)
  unfold b_int_in
  have h1 := h.lo
  have h2 := h.hi
  have h3 := h.ln
  have h4 := h.l1
  have hin : bltE S .int [.str (toString i)] = some (.int i) := by
    show (match PySem.intText? (toString i) with | some n => if (toString i : PySem.Str).length ≤ 640 then some (D.int n) else none | none => none) = _
    rw [h.rd]
    exact if_pos (by omega)
  refine wp_split 2 (fun ρ Z => ρ = [some (.str (toString i)), some (.str ⟨(figs i).toArray⟩), none] ∧ Z = S) ?_ ?_
  · change wpB (g0 n) [_, .ife _ [_] []] _ _ _ _ _
    simp! only [rcv_starts, mth_starts]
    refine wpT_i (fun hs => ?_) fun hs => ?_
    · simp! only [sl_str1 (x := toString i) (by omega) h4]
      unfold figs
      rw [if_pos hs]
    · simp! only [wpB_nil]
      unfold figs
      rw [if_neg (by rw [hs]; exact Bool.false_ne_true), TL.mk_tl]
  · rintro ρ Z ⟨rfl, rfl⟩
    change wpB (g0 n) [.ife _ [_] [], .for_ _ _ _ _, .ret _] _ _ _ _ _
    have hfl : (⟨(figs i).toArray⟩ : PySem.Str).length = (figs i).length := by rw [TL.len_tl]
    have hlen : bltE Z .len [.str ⟨(figs i).toArray⟩] = some (.int (figs i).length) := by rw [len_str (by rw [hfl]; omega), hfl]
    have a1 : ¬ ((figs i).length : Int) < 1 := by omega
    have a2 : ¬ (8 : Int) < ((figs i).length : Int) := by omega
    simp! only [hlen, a1, a2]
    refine wp_for (fun k ρ S' => (∃ kv, ρ = [some (.str (toString i)), some (.str ⟨(figs i).toArray⟩), kv]) ∧ S' = Z) ?_
    simp! only [wpB_nil]
    refine ⟨_, none, items_str (by rw [hfl]; omega), ?_, ⟨⟨_, rfl⟩, rfl⟩, fun _ _ _ _ => trivial, ?_, ?_⟩
    · rw [settleds_all, List.all_eq_true]
      intro x hx
      obtain ⟨c, _, rfl⟩ := List.mem_map.mp hx
      rfl
    · rintro k y ρ S' hd ⟨⟨kv, rfl⟩, rfl⟩
      obtain ⟨c, hcm, rfl⟩ := List.mem_map.mp (List.mem_of_getElem? hd)
      have hi := h.dg c hcm
      simp! only [cmp_nin, in_str, hi]
      exact ⟨_, rfl⟩
    · rintro ρ S' ⟨⟨kv, rfl⟩, rfl⟩
      simp! only [hin, leave_int0 hc, leave_int hc, leave_bl0 hc, leave_bl hc, leave_str0 hc, leave_str hc, leave_non0 hc, leave_non hc, leave_tup0 hc, leave_tup hc, takeX hc, takeX0 hc]
end Pg
end
section
set_option Elab.async false
set_option linter.all false
set_option maxRecDepth 100000
set_option maxHeartbeats 4000000
namespace Pg
open Ev
local macro_rules
  | `(tactic| simp! only [$as,*] $[$l]?) => `(tactic| simp only [wpB_cons, wpB_nil, wpS_set, wpS_setT, wpS_par, wpS_setI, wpS_expr, wpS_ret, wpS_ife, wpS_raise, wpS_try, wpS_aug, wpE_var, wpE_cst, wpE_tup, wpE_lst, wpE_dct0, wpE_bin, wpE_neg, wpE_not, wpE_and, wpE_or, wpE_cmp, wpE_cmp2, wpE_is, wpE_ife, wpE_idx, wpE_sl, wpE_call, wpE_blt, wpE_mth, wpE_isi, wpEs_nil, wpEs_cons, wpR_ok, wpR_ex, wpO_some, wpO_map, wpT_true, wpT_false, wpT_not, wpIfs_nil, wpIfs_one, getV_0, getV_s, List.set_cons_succ, List.set_cons_zero, g0_F, g0_isa, truth_non, truth_bl, truth_int, truth_tup, truth_lst, truth_fz, Option.map_some, Option.isSome_some, if_true, Bool.false_eq_true, if_false, Bool.not_true, Bool.not_false, isPart, setTg, setNames, bin_add, bin_sub, cmp_lt, cmp_gt, cmp_le, cmp_ge, cmp_eq, orD_some, cmp_ne, eq_int, eq_str, abs_int, tuple_seq, list_seq, seqOf_tup, seqOf_lst, seqOf_fz, seqOf_ref, int_bl, mdl, fdl, min2, max2, pu_non, pu_bl, pu_int, pu_str, pu_nil, pu_cons, pure_tup, Bool.and_self, Int.reduceLT, and_true, true_and, decide_true, decide_false, isC_b_non, isC_n_bl, isC_n_int, isC_b_int, isC_n_str, isC_b_str, isC_n_tup, isC_b_tup, isC_n_lst, isC_b_lst, isC_n_fz, isC_b_fz, isC_n_dct, isC_b_dct, isC_n_ref, isC_b_ref, isC_n_exc, isC_b_exc, isC_n_non, isC_true_true_true, isC_true_true_false, isC_true_false_true, isC_true_false_false, isC_false_true_true, isC_false_true_false, isC_false_false_true, isC_false_false_false, isTys_nil, isTys_c, isTy_exv, isTy_exc, isTy_non_int, isTy_non_str, isTy_non_tuple, isTy_non_list, isTy_non_dict, isTy_non_bool, isTy_bl_int, isTy_bl_str, isTy_bl_tuple, isTy_bl_list, isTy_bl_dict, isTy_bl_bool, isTy_int_int, isTy_int_str, isTy_int_tuple, isTy_int_list, isTy_int_dict, isTy_int_bool, isTy_str_int, isTy_str_str, isTy_str_tuple, isTy_str_list, isTy_str_dict, isTy_str_bool, isTy_tup_int, isTy_tup_str, isTy_tup_tuple, isTy_tup_list, isTy_tup_dict, isTy_tup_bool, isTy_lst_int, isTy_lst_str, isTy_lst_tuple, isTy_lst_list, isTy_lst_dict, isTy_lst_bool, isTy_fz_int, isTy_fz_str, isTy_fz_tuple, isTy_fz_list, isTy_fz_dict, isTy_fz_bool, isTy_dct_int, isTy_dct_str, isTy_dct_tuple, isTy_dct_list, isTy_dct_dict, isTy_dct_bool, Option.bind_some, settle_int, settle_str, settle_bl, settle_non, settle_ref, settle_fz, settle_exc, settle_tup, settle_lst, settle_dct, settles_nil, settles_cons, $as,*] $[$l]?)
variable {n : Nat} {S : Sto}
/-! ### kinds, rows, worlds; their texts -/
inductive Kd where | truth | range (a b : Int) | fraction | table (k : Int)
def Kd.tag : Kd → PySem.Str
  | .truth => "truth"
  | .range _ _ => "range"
  | .fraction => "fraction"
  | .table _ => "table"
def Kd.ints : Kd → List Int
  | .range a b => [a, b]
  | .table k => [k]
  | _ => []
def Kd.d (k : Kd) : D := .tup (.str k.tag :: k.ints.map .int)
def Kd.ok : Kd → Prop
  | .truth => True
  | .fraction => True
  | .table k => 2 ≤ k ∧ k ≤ 5
  | .range a b => -50 ≤ a ∧ a ≤ 50 ∧ a ≤ b ∧ b ≤ 50 ∧ b ≤ a + 16
def Kd.place : Kd → Prop
  | .fraction => True
  | .table k => 2 ≤ k ∧ k ≤ 5
  | _ => False
theorem Kd.place.ok {k : Kd} (h : k.place) : k.ok := by
  cases k with
  | fraction => trivial
  | table k => exact h
  | _ => exact h.elim
theorem Kd.ok.ints {k : Kd} (h : k.ok) : k.ints.length ≤ 2 ∧ ∀ i ∈ k.ints, IntT i := by
  cases k with
  | truth => exact ⟨by simp [Kd.ints], fun i m => nomatch m⟩
  | fraction => exact ⟨by simp [Kd.ints], fun i m => nomatch m⟩
  | table k =>
    obtain ⟨h1, h2⟩ := h
    refine ⟨by simp [Kd.ints], fun i m => ?_⟩
    have : i = k := by simpa [Kd.ints] using m
    subst this
    exact intT (by omega) (by omega)
  | range a b =>
    obtain ⟨h1, h2, h3, h4, h5⟩ := h
    refine ⟨by simp [Kd.ints], fun i m => ?_⟩
    have : i = a ∨ i = b := by simpa [Kd.ints] using m
    rcases this with rfl | rfl
    · exact intT (by omega) (by omega)
    · exact intT (by omega) (by omega)
theorem tag_len (k : Kd) : k.tag.length ≤ 8 ∧ ∀ c ∈ TL.tl k.tag, c ≠ 58 ∧ c ≠ 32 ∧ c ≠ 59 := by
  have h1 : ("truth" : PySem.Str).length ≤ 8 ∧ ∀ c ∈ TL.tl ("truth" : PySem.Str), c ≠ 58 ∧ c ≠ 32 ∧ c ≠ 59 := by decide +kernel
  have h2 : ("range" : PySem.Str).length ≤ 8 ∧ ∀ c ∈ TL.tl ("range" : PySem.Str), c ≠ 58 ∧ c ≠ 32 ∧ c ≠ 59 := by decide +kernel
  have h3 : ("fraction" : PySem.Str).length ≤ 8 ∧ ∀ c ∈ TL.tl ("fraction" : PySem.Str), c ≠ 58 ∧ c ≠ 32 ∧ c ≠ 59 := by decide +kernel
  have h4 : ("table" : PySem.Str).length ≤ 8 ∧ ∀ c ∈ TL.tl ("table" : PySem.Str), c ≠ 58 ∧ c ≠ 32 ∧ c ≠ 59 := by decide +kernel
  cases k with
  | truth => exact h1
  | range a b => exact h2
  | fraction => exact h3
  | table k => exact h4
theorem kd_pure (k : Kd) : k.d.pure = true := by
  unfold Kd.d
  rw [pure_tup, pu_cons, ints_pure]; rfl
def txtI (i : Int) : PySem.Str := toString i
def kParts (k : Kd) : List PySem.Str := k.tag :: k.ints.map txtI
def kT (k : Kd) : PySem.Str := PySem.Txt.join ":" (kParts k)
theorem kParts_at {k : Kd} {j : Nat} {d : D} (hk : k.ok) (h : (D.str k.tag :: k.ints.map .int)[j]? = some d) : ∃ p, (kParts k)[j]? = some p ∧ ∀ S, bltE S .str [d] = some (.str p) := by
  cases j with
  | zero =>
    rw [List.getElem?_cons_zero] at h
    cases h
    exact ⟨k.tag, rfl, fun _ => rfl⟩
  | succ j =>
    rw [List.getElem?_cons_succ, List.getElem?_map] at h
    obtain ⟨i, hi, rfl⟩ := Option.map_eq_some_iff.mp h
    refine ⟨txtI i, ?_, fun S => ?_⟩
    · unfold kParts
      rw [List.getElem?_cons_succ, List.getElem?_map, hi]; rfl
    · show (if i.natAbs.log2 < 1920 then some (D.str (toString i)) else none) = _
      exact if_pos (hk.ints.2 i (List.mem_of_getElem? hi)).sm
theorem kParts_ok {k : Kd} (hk : k.ok) : (kParts k).length ≤ 3 ∧ (∀ p ∈ kParts k, p.length ≤ 8) ∧ ∀ p ∈ kParts k, ∀ c ∈ TL.tl p, c ≠ 58 ∧ c ≠ 32 ∧ c ≠ 59 := by
  obtain ⟨h1, h2⟩ := hk.ints
  refine ⟨by simp [kParts]; omega, fun p m => ?_, fun p m => ?_⟩
  · rcases List.mem_cons.mp m with rfl | m
    · exact (tag_len k).1
    · obtain ⟨i, hi, rfl⟩ := List.mem_map.mp m
      have := (h2 i hi).ln
      show (toString i : PySem.Str).length ≤ 8
      omega
  · rcases List.mem_cons.mp m with rfl | m
    · exact (tag_len k).2
    · obtain ⟨i, hi, rfl⟩ := List.mem_map.mp m
      exact (h2 i hi).ch
theorem kT_len {k : Kd} (hk : k.ok) : (kT k).length ≤ 27 := by
  obtain ⟨h1, h2, _⟩ := kParts_ok hk
  exact join_len (x := ":") (B := 8) (N := 3) h2 h1
theorem kT_ch {k : Kd} (hk : k.ok) : ∀ c ∈ TL.tl (kT k), c ≠ 32 ∧ c ≠ 59 := fun c m => by
  rcases join_mem m with h | ⟨p, hp, h⟩
  · have : c = 58 := by simpa using (show c ∈ ([58] : List Nat) from h)
    subst this; decide
  · exact ((kParts_ok hk).2.2 p hp c h).2
theorem take_at {α : Type} {l : List α} {j : Nat} {p : α} (h : l[j]? = some p) : l.take (j + 1) = l.take j ++ [p] := by
  rw [List.take_succ, h]; rfl
theorem len_at {α β : Type} {l : List α} {m : List β} (h : ∀ j : Nat, (l[j]?).isSome = (m[j]?).isSome) : l.length = m.length := by
  have a := h l.length
  have b := h m.length
  simp at a b
  omega
theorem kParts_len (k : Kd) : (D.str k.tag :: k.ints.map .int).length = (kParts k).length := by simp [kParts]
theorem kd_settled (k : Kd) : settleds (D.str k.tag :: k.ints.map .int) = true := by
  have := pure_settled _ (kd_pure k)
  unfold Kd.d D.settled at this
  exact this
theorem kd_settle {k : Kd} : settle k.d S = (k.d, S) := settle_pure _ _ (kd_pure k)
theorem c_show_kind {k : Kd} (hk : k.ok) (hc : Cl S) : F (n + 1) 8 [k.d] S = some (.ok (.str (kT k)) S) := by
  refine wpR_is (e_show_kind (by simp only [settle_int, settle_str, settle_bl, settle_non, settle_ref, settle_fz, settle_exc, settle_tup, settle_lst, settle_dct, settles_nil, settles_cons, kd_settle]; rfl) ?_)
  unfold b_show_kind
  obtain ⟨h1, h2, _⟩ := kParts_ok hk
  simp! only [rcv_join]
  refine wp_comp (fun j vs S' => vs = ((kParts k).take j).map .str ∧ S = S') ?_
  simp! only [Kd.d]
  refine ⟨_, none, items_tup, kd_settled k, ⟨rfl, rfl⟩, fun _ _ _ _ => trivial, ?_, ?_⟩
  · rintro j y vs S' hd ⟨rfl, rfl⟩
    obtain ⟨p, hp, hb⟩ := kParts_at hk hd
    simp! only [hb]
    rw [take_at hp]; simp
  · rintro vs S' ⟨rfl, rfl⟩
    rw [kParts_len, List.take_length]
    simp! only [join_lst (x := ":") h2 h1 (by decide), leave_int0 hc, leave_int hc, leave_bl0 hc, leave_bl hc, leave_str0 hc, leave_str hc, leave_non0 hc, leave_non hc, leave_tup0 hc, leave_tup hc, takeX hc, takeX0 hc]
    rfl
theorem c__law_kind_text {k : Kd} (hk : k.ok) (hc : Cl S) : F (n + 1) 22 [k.d] S = some (.ok (.str (kT k)) S) := by
  refine wpR_is (e__law_kind_text (by simp only [settle_int, settle_str, settle_bl, settle_non, settle_ref, settle_fz, settle_exc, settle_tup, settle_lst, settle_dct, settles_nil, settles_cons, kd_settle]; rfl) ?_)
  unfold b__law_kind_text
  obtain ⟨h1, h2, _⟩ := kParts_ok hk
  simp! only [rcv_join]
  refine wp_comp (fun j vs S' => vs = ((kParts k).take j).map .str ∧ S = S') ?_
  simp! only [Kd.d]
  refine ⟨_, none, items_tup, kd_settled k, ⟨rfl, rfl⟩, fun _ _ _ _ => trivial, ?_, ?_⟩
  · rintro j y vs S' hd ⟨rfl, rfl⟩
    obtain ⟨p, hp, hb⟩ := kParts_at hk hd
    simp! only [hb]
    rw [take_at hp]; simp
  · rintro vs S' ⟨rfl, rfl⟩
    rw [kParts_len, List.take_length]
    simp! only [join_lst (x := ":") h2 h1 (by decide), leave_int0 hc, leave_int hc, leave_bl0 hc, leave_bl hc, leave_str0 hc, leave_str hc, leave_non0 hc, leave_non hc, leave_tup0 hc, leave_tup hc, takeX hc, takeX0 hc]
    rfl
/-! ### rows -/
inductive Rw where | unk (nm : PySem.Str) (k : Kd) | fun_ (nm : PySem.Str) (ks : List Kd) (k : Kd) | row (nm : PySem.Str) (a b : Kd)
def Rw.d : Rw → D
  | .unk nm k => .tup [.str "unknown", .str nm, k.d]
  | .fun_ nm ks k => .tup [.str "function", .str nm, .tup (ks.map Kd.d), k.d]
  | .row nm a b => .tup [.str "row", .str nm, a.d, b.d]
def Rw.nm : Rw → PySem.Str
  | .unk nm _ => nm
  | .fun_ nm _ _ => nm
  | .row nm _ _ => nm
def Rw.word : Rw → PySem.Str
  | .unk _ _ => "unknown"
  | .fun_ _ _ _ => "function"
  | .row _ _ _ => "row"
def Rw.kinds : Rw → List Kd
  | .unk _ k => [k]
  | .fun_ _ ks k => ks ++ [k]
  | .row _ a b => [a, b]
/-- a name's text -/
structure Nm (s : PySem.Str) : Prop where
  lo : 1 ≤ s.length
  hi : s.length ≤ 8
  ch : ∀ c ∈ TL.tl s, 97 ≤ c ∧ c < 123
structure Rw.ok (r : Rw) : Prop where
  nm : Nm r.nm
  ks : match r with
    | .unk _ k => k.ok
    | .fun_ _ ks k => (1 ≤ ks.length ∧ ks.length ≤ 2 ∧ ∀ q ∈ ks, q.place) ∧ k.ok ∧ k.tag ≠ "truth"
    | .row _ a b => a.place ∧ b.place
theorem Rw.ok.kinds {r : Rw} (h : r.ok) : r.kinds.length ≤ 3 ∧ ∀ k ∈ r.kinds, k.ok := by
  have hk := h.ks
  cases r with
  | unk nm k => exact ⟨by simp [Rw.kinds], by simpa [Rw.kinds] using hk⟩
  | fun_ nm ks k =>
    obtain ⟨⟨h1, h2, h3⟩, h4, _⟩ := hk
    refine ⟨by simp [Rw.kinds]; omega, fun q m => ?_⟩
    rcases List.mem_append.mp m with m | m
    · exact (h3 q m).ok
    · have : q = k := by simpa using m
      subst this; exact h4
  | row nm a b =>
    refine ⟨by simp [Rw.kinds], fun q m => ?_⟩
    have : q = a ∨ q = b := by simpa [Rw.kinds] using m
    rcases this with rfl | rfl
    · exact hk.1.ok
    · exact hk.2.ok
theorem kds_pure (ks : List Kd) : pures (ks.map Kd.d) = true := pures_of fun x m => by
  obtain ⟨k, _, rfl⟩ := List.mem_map.mp m
  exact kd_pure k
theorem rw_pure (r : Rw) : r.d.pure = true := by
  cases r with
  | unk nm k => simp [Rw.d, D.pure, pures, kd_pure]
  | fun_ nm ks k => simp [Rw.d, D.pure, pures, kd_pure, kds_pure]
  | row nm a b => simp [Rw.d, D.pure, pures, kd_pure]
theorem rws_pure (rs : List Rw) : pures (rs.map Rw.d) = true := pures_of fun x m => by
  obtain ⟨r, _, rfl⟩ := List.mem_map.mp m
  exact rw_pure r
theorem rw_settle {r : Rw} : settle r.d S = (r.d, S) := settle_pure _ _ (rw_pure r)
abbrev wd (rs : List Rw) : D := .tup (rs.map Rw.d)
theorem wd_pure (rs : List Rw) : (wd rs).pure = true := by rw [pure_tup]; exact rws_pure rs
theorem settles_rw {rs : List Rw} : settles (rs.map Rw.d) S = (rs.map Rw.d, S) := settles_pure _ _ (rws_pure rs)
def rWords (r : Rw) : List PySem.Str := r.word :: r.nm :: r.kinds.map kT
def rT (r : Rw) : PySem.Str := PySem.Txt.join " " (rWords r)
def wT (rs : List Rw) : PySem.Str := PySem.Txt.join "; " (rs.map rT)
theorem word_ok (r : Rw) : r.word.length ≤ 8 ∧ ∀ c ∈ TL.tl r.word, c ≠ 32 ∧ c ≠ 59 := by
  have h1 : ("unknown" : PySem.Str).length ≤ 8 ∧ ∀ c ∈ TL.tl ("unknown" : PySem.Str), c ≠ 32 ∧ c ≠ 59 := by decide +kernel
  have h2 : ("function" : PySem.Str).length ≤ 8 ∧ ∀ c ∈ TL.tl ("function" : PySem.Str), c ≠ 32 ∧ c ≠ 59 := by decide +kernel
  have h3 : ("row" : PySem.Str).length ≤ 8 ∧ ∀ c ∈ TL.tl ("row" : PySem.Str), c ≠ 32 ∧ c ≠ 59 := by decide +kernel
  cases r with
  | unk a b => exact h1
  | fun_ a b c => exact h2
  | row a b c => exact h3
theorem rWords_ok {r : Rw} (h : r.ok) : (rWords r).length ≤ 5 ∧ (∀ p ∈ rWords r, p.length ≤ 27) ∧ ∀ p ∈ rWords r, ∀ c ∈ TL.tl p, c ≠ 32 ∧ c ≠ 59 := by
  obtain ⟨k1, k2⟩ := h.kinds
  obtain ⟨w1, w2⟩ := word_ok r
  have nh := h.nm.hi
  refine ⟨by simp [rWords]; omega, fun p m => ?_, fun p m c hc => ?_⟩
  · rcases List.mem_cons.mp m with rfl | m
    · omega
    · rcases List.mem_cons.mp m with rfl | m
      · omega
      · obtain ⟨k, hk, rfl⟩ := List.mem_map.mp m
        exact kT_len (k2 k hk)
  · rcases List.mem_cons.mp m with rfl | m
    · exact w2 c hc
    · rcases List.mem_cons.mp m with rfl | m
      · have := h.nm.ch c hc
        omega
      · obtain ⟨k, hk, rfl⟩ := List.mem_map.mp m
        exact kT_ch (k2 k hk) c hc
theorem rT_len {r : Rw} (h : r.ok) : (rT r).length ≤ 140 := by
  obtain ⟨h1, h2, _⟩ := rWords_ok h
  exact join_len (x := " ") (B := 27) (N := 5) h2 h1
theorem rT_ch {r : Rw} (h : r.ok) : ∀ c ∈ TL.tl (rT r), c ≠ 59 := fun c m => by
  rcases join_mem m with e | ⟨p, hp, e⟩
  · have : c = 32 := by simpa using (show c ∈ ([32] : List Nat) from e)
    subst this; decide
  · exact ((rWords_ok h).2.2 p hp c e).2
theorem wT_len {rs : List Rw} (h : ∀ r ∈ rs, r.ok) (hl : rs.length ≤ 24) : (wT rs).length ≤ 3408 := by
  refine join_len (x := "; ") (B := 140) (N := 24) (fun y m => ?_) (by simpa using hl)
  obtain ⟨r, hr, rfl⟩ := List.mem_map.mp m
  exact rT_len (h r hr)
end Pg
end
section
set_option Elab.async false
set_option linter.all false
set_option maxRecDepth 100000
set_option maxHeartbeats 8000000
namespace Ev
section
variable {g : G} {ρ : Env} {Z : Sto} {Q : D → Sto → Prop} {X : Nat → Sto → Prop} {Qn : Env → Sto → Prop}
theorem wp_then {s : PS} {ss : List PS} (ρ' : Env) (Z' : Sto) (h1 : ∀ Qn' : Env → Sto → Prop, Qn' ρ' Z' → wpS g s Qn' Q X ρ Z) (h2 : wpB g ss Qn Q X ρ' Z') : wpB g (s :: ss) Qn Q X ρ Z := by rw [wpB_cons]; exact h1 _ h2
theorem wp_ifT {c : PE} {a b ss : List PS} (h1 : ∀ (Q' : D → Sto → Prop) X', Q' (.bl true) Z → wpE g c Q' X' ρ Z) (h2 : wpB g a (fun ρ S => wpB g ss Qn Q X ρ S) Q X ρ Z) : wpB g (.ife c a b :: ss) Qn Q X ρ Z := by
  rw [wpB_cons, wpS_ife]
  refine h1 _ _ ?_
  simp only [truth_bl, wpO_some, wpT_true]
  exact h2
theorem wp_ifF {c : PE} {a b ss : List PS} (h1 : ∀ (Q' : D → Sto → Prop) X', Q' (.bl false) Z → wpE g c Q' X' ρ Z) (h2 : wpB g b (fun ρ S => wpB g ss Qn Q X ρ S) Q X ρ Z) : wpB g (.ife c a b :: ss) Qn Q X ρ Z := by
  rw [wpB_cons, wpS_ife]
  refine h1 _ _ ?_
  simp only [truth_bl, wpO_some, wpT_false]
  exact h2
theorem exD_do {n : Nat} {ds es : List D} {S : Sto} (h : S[n]? = some (.lst ds)) (hp : pures es = true) (hl : ds.length + es.length ≤ 16777216) : exD S (.ref n) (.lst es) = some (S.set n (.lst (ds ++ es))) := by
  unfold exD
  simp only [h, settles_pure _ _ hp]
  exact if_pos (decide_eq_true hl)
theorem refD_ref {n : Nat} : refD (.ref n) = some (.ref n) := rfl
end
end Ev
namespace Pg
open Ev
local macro_rules
  | `(tactic| simp! only [$as,*] $[$l]?) => `(tactic| simp only [wpB_cons, wpB_nil, wpS_set, wpS_setT, wpS_par, wpS_setI, wpS_expr, wpS_ret, wpS_ife, wpS_raise, wpS_try, wpS_aug, wpE_var, wpE_cst, wpE_tup, wpE_lst, wpE_dct0, wpE_bin, wpE_neg, wpE_not, wpE_and, wpE_or, wpE_cmp, wpE_cmp2, wpE_is, wpE_ife, wpE_idx, wpE_sl, wpE_call, wpE_blt, wpE_mth, wpE_isi, wpEs_nil, wpEs_cons, wpR_ok, wpR_ex, wpO_some, wpO_map, wpT_true, wpT_false, wpT_not, wpIfs_nil, wpIfs_one, getV_0, getV_s, List.set_cons_succ, List.set_cons_zero, g0_F, g0_isa, truth_non, truth_bl, truth_int, truth_tup, truth_lst, truth_fz, Option.map_some, Option.isSome_some, if_true, Bool.false_eq_true, if_false, Bool.not_true, Bool.not_false, isPart, setTg, setNames, bin_add, bin_sub, cmp_lt, cmp_gt, cmp_le, cmp_ge, cmp_eq, orD_some, cmp_ne, eq_int, eq_str, abs_int, tuple_seq, list_seq, seqOf_tup, seqOf_lst, seqOf_fz, seqOf_ref, int_bl, mdl, fdl, min2, max2, pu_non, pu_bl, pu_int, pu_str, pu_nil, pu_cons, pure_tup, Bool.and_self, Int.reduceLT, and_true, true_and, decide_true, decide_false, isC_b_non, isC_n_bl, isC_n_int, isC_b_int, isC_n_str, isC_b_str, isC_n_tup, isC_b_tup, isC_n_lst, isC_b_lst, isC_n_fz, isC_b_fz, isC_n_dct, isC_b_dct, isC_n_ref, isC_b_ref, isC_n_exc, isC_b_exc, isC_n_non, isC_true_true_true, isC_true_true_false, isC_true_false_true, isC_true_false_false, isC_false_true_true, isC_false_true_false, isC_false_false_true, isC_false_false_false, isTys_nil, isTys_c, isTy_exv, isTy_exc, isTy_non_int, isTy_non_str, isTy_non_tuple, isTy_non_list, isTy_non_dict, isTy_non_bool, isTy_bl_int, isTy_bl_str, isTy_bl_tuple, isTy_bl_list, isTy_bl_dict, isTy_bl_bool, isTy_int_int, isTy_int_str, isTy_int_tuple, isTy_int_list, isTy_int_dict, isTy_int_bool, isTy_str_int, isTy_str_str, isTy_str_tuple, isTy_str_list, isTy_str_dict, isTy_str_bool, isTy_tup_int, isTy_tup_str, isTy_tup_tuple, isTy_tup_list, isTy_tup_dict, isTy_tup_bool, isTy_lst_int, isTy_lst_str, isTy_lst_tuple, isTy_lst_list, isTy_lst_dict, isTy_lst_bool, isTy_fz_int, isTy_fz_str, isTy_fz_tuple, isTy_fz_list, isTy_fz_dict, isTy_fz_bool, isTy_dct_int, isTy_dct_str, isTy_dct_tuple, isTy_dct_list, isTy_dct_dict, isTy_dct_bool, Option.bind_some, settle_int, settle_str, settle_bl, settle_non, settle_ref, settle_fz, settle_exc, settle_tup, settle_lst, settle_dct, settles_nil, settles_cons, $as,*] $[$l]?)
variable {n : Nat} {S : Sto}
theorem add_rl' {k : Nat} {a b : List D} (h : S[k]? = some (.lst a)) (hl : a.length + b.length ≤ 16777216) : binE S .add (.ref k) (.lst b) = some (.lst (a ++ b)) := by
  rw [add_rl, h]; simp only [if_pos hl]
theorem add_lr' {k : Nat} {a b : List D} (h : S[k]? = some (.lst b)) (hl : a.length + b.length ≤ 16777216) : binE S .add (.lst a) (.ref k) = some (.lst (a ++ b)) := by
  rw [add_lr, h]; simp only [if_pos hl]
theorem kds_settled (ks : List Kd) : settleds (ks.map Kd.d) = true := pures_settled _ (kds_pure ks)
/-- [show_kind(kind) for kind in ..] -/
theorem wp_show {e : PE} {Q : D → Sto → Prop} {X : Nat → Sto → Prop} {a b c : Option D} {ks : List Kd} (hk : ∀ k ∈ ks, k.ok) (hc : Cl S) (he : ∀ (Q' : D → Sto → Prop) X', Q' (.tup (ks.map Kd.d)) S → wpE (g0 (n + 1)) e Q' X' [a, b, c] S) (q : Q (.lst ((ks.map kT).map .str)) S) :
    wpE (g0 (n + 1)) (.comp (.nm 2) .val [e] [] (.call 8 [(.var 2)])) Q X [a, b, c] S := by
  refine wp_comp (fun j vs S' => vs = ((ks.take j).map kT).map .str ∧ S = S') ?_
  rw [wpEs_cons]
  refine he _ _ ?_
  simp only [wpEs_nil]
  refine ⟨_, none, items_tup, kds_settled ks, ⟨rfl, rfl⟩, fun _ _ _ _ => trivial, ?_, ?_⟩
  · rintro j y vs S' hd ⟨rfl, rfl⟩
    rw [List.getElem?_map] at hd
    obtain ⟨k, hk', rfl⟩ := Option.map_eq_some_iff.mp hd
    have z := c_show_kind (n := n) (hk k (List.mem_of_getElem? hk')) hc
    simp! only [z]
    rw [take_at hk']; simp
  · rintro vs S' ⟨rfl, rfl⟩
    rw [List.length_map, List.take_length]
    exact q
theorem c_show_declaration {r : Rw} (h : r.ok) (hc : Cl S) : F (n + 2) 9 [r.d] S = some (.ok (.str (rT r)) S) := by
  refine wpR_is (e_show_declaration (by simp only [settle_int, settle_str, settle_bl, settle_non, settle_ref, settle_fz, settle_exc, settle_tup, settle_lst, settle_dct, settles_nil, settles_cons, rw_settle]; rfl) ?_)
  obtain ⟨w1, w2, _⟩ := rWords_ok h
  obtain ⟨k1, k2⟩ := h.kinds
  have hks := h.ks
  have hc0 : Cl (S ++ [D.lst [.str r.word, .str r.nm]]) := hc.lst rfl
  have hg0 : (S ++ [D.lst [.str r.word, .str r.nm]])[S.length]? = some (.lst [.str r.word, .str r.nm]) := by simp
  refine wp_split 2 (fun ρ Z => ρ = [some r.d, some (.ref S.length), none] ∧ Z = S ++ [.lst ((rWords r).map .str)]) ?_ ?_
  · unfold b_show_declaration
    change wpB (g0 (n + 1)) [_, .ife _ [_, _] [_]] _ _ _ _ _
    refine wp_then [some r.d, some (.ref S.length), none] (S ++ [.lst [.str r.word, .str r.nm]]) (fun Qn' q => ?_) ?_
    · have hs : slE S r.d .non (.int 2) = some (.tup [.str r.word, .str r.nm]) := by cases r <;> rfl
      simp! only [hs]
      exact q
    · cases r with
      | unk nm k =>
        have q1 : decide (("unknown" : PySem.Str) = "function") = false := by decide
        have hs : ∀ {S}, slE S (Rw.unk nm k).d (.int 2) .non = some (.tup ([k].map Kd.d)) := rfl
        refine wp_ifF (fun Q' X' q => by simp! only [Rw.d, get_app, get_app0, set_app, set_app0, mutOf_r, listOf_r, dictOf_r, idx_r, idx_l, idx_f, idx_tup, mth_append, mth_pop, rcv_append, rcv_pop, rcv_extend, atI_0, atI_1, atI_2, atI_3, atI_4, add_rl, add_lr, add_ll, List.getElem?_cons_zero, List.getElem?_cons_succ, q1]; exact q) ?_
        simp only [wpB_cons, wpB_nil, wpS_augL, getV_0, getV_s, Option.bind_some, refD_ref, wpO_some]
        refine wp_show (ks := [k]) (by simpa using hks) hc0 (fun Q' X' q => by simp! only [hs]; exact q) ?_
        rw [exD_do hg0 (strs_pure _) (by simp)]
        simp only [wpO_some, set_app0, List.set_cons_zero]
        exact ⟨rfl, rfl⟩
      | row nm a b =>
        have q1 : decide (("row" : PySem.Str) = "function") = false := by decide
        have hs : ∀ {S}, slE S (Rw.row nm a b).d (.int 2) .non = some (.tup ([a, b].map Kd.d)) := rfl
        refine wp_ifF (fun Q' X' q => by simp! only [Rw.d, get_app, get_app0, set_app, set_app0, mutOf_r, listOf_r, dictOf_r, idx_r, idx_l, idx_f, idx_tup, mth_append, mth_pop, rcv_append, rcv_pop, rcv_extend, atI_0, atI_1, atI_2, atI_3, atI_4, add_rl, add_lr, add_ll, List.getElem?_cons_zero, List.getElem?_cons_succ, q1]; exact q) ?_
        simp only [wpB_cons, wpB_nil, wpS_augL, getV_0, getV_s, Option.bind_some, refD_ref, wpO_some]
        refine wp_show (ks := [a, b]) k2 hc0 (fun Q' X' q => by simp! only [hs]; exact q) ?_
        rw [exD_do hg0 (strs_pure _) (by simp)]
        simp only [wpO_some, set_app0, List.set_cons_zero]
        exact ⟨rfl, rfl⟩
      | fun_ nm ks k =>
        obtain ⟨⟨f1, f2, f3⟩, f4, _⟩ := hks
        have hs : ∀ {S}, idxE S (Rw.fun_ nm ks k).d (.int 2) = some (.tup (ks.map Kd.d)) := rfl
        have hs3 : ∀ {S}, idxE S (Rw.fun_ nm ks k).d (.int 3) = some k.d := rfl
        refine wp_ifT (fun Q' X' q => by simp! only [Rw.d, get_app, get_app0, set_app, set_app0, mutOf_r, listOf_r, dictOf_r, idx_r, idx_l, idx_f, idx_tup, mth_append, mth_pop, rcv_append, rcv_pop, rcv_extend, atI_0, atI_1, atI_2, atI_3, atI_4, add_rl, add_lr, add_ll, List.getElem?_cons_zero, List.getElem?_cons_succ]; exact q) ?_
        rw [wpB_cons, wpS_augL]
        simp only [getV_0, getV_s, Option.bind_some, refD_ref, wpO_some]
        refine wp_show (ks := ks) (fun q m => (f3 q m).ok) hc0 (fun Q' X' q => by simp! only [hs]; exact q) ?_
        rw [exD_do hg0 (strs_pure _) (by simp; omega)]
        simp only [wpO_some, set_app0, List.set_cons_zero]
        have hc1 : Cl (S ++ [D.lst ([.str (Rw.fun_ nm ks k).word, .str (Rw.fun_ nm ks k).nm] ++ (ks.map kT).map .str)]) := hc.lst (by rw [List.cons_append, List.cons_append, List.nil_append, pu_cons, pu_cons, strs_pure]; rfl)
        have z := c_show_kind (n := n) f4 hc1
        have hll : ([D.str (Rw.fun_ nm ks k).word, .str (Rw.fun_ nm ks k).nm] ++ (ks.map kT).map D.str).length < 16777216 := by simp; omega
        simp! only [get_app, get_app0, set_app, set_app0, mutOf_r, listOf_r, dictOf_r, idx_r, idx_l, idx_f, idx_tup, mth_append, mth_pop, rcv_append, rcv_pop, rcv_extend, atI_0, atI_1, atI_2, atI_3, atI_4, add_rl, add_lr, add_ll, List.getElem?_cons_zero, List.getElem?_cons_succ, hs3, z, hll]
        simp [rWords, Rw.kinds]
  · rintro ρ Z ⟨rfl, rfl⟩
    have hg : (S ++ [D.lst ((rWords r).map .str)])[S.length]? = some (.lst ((rWords r).map .str)) := by simp
    change wpB (g0 (n + 1)) [.ret _] _ _ _ _ _
    simp! only [rcv_join, join_ref (x := " ") hg w2 w1 (by decide)]
    rw [leave_pu0 hc rfl]
    exact ⟨rfl, rfl⟩
theorem c_show_world {rs : List Rw} (h : ∀ r ∈ rs, r.ok) (hl : rs.length ≤ 24) (hc : Cl S) : F (n + 3) 10 [wd rs] S = some (.ok (.str (wT rs)) S) := by
  refine wpR_is (e_show_world (by simp only [settle_int, settle_str, settle_bl, settle_non, settle_ref, settle_fz, settle_exc, settle_tup, settle_lst, settle_dct, settles_nil, settles_cons, settles_rw]; rfl) ?_)
  unfold b_show_world
  simp! only [rcv_join]
  refine wp_comp (fun j vs S' => vs = ((rs.take j).map rT).map .str ∧ S = S') ?_
  simp! only [wpB_nil]
  refine ⟨_, none, items_tup, pures_settled _ (rws_pure rs), ⟨rfl, rfl⟩, fun _ _ _ _ => trivial, ?_, ?_⟩
  · rintro j y vs S' hd ⟨rfl, rfl⟩
    rw [List.getElem?_map] at hd
    obtain ⟨r, hr, rfl⟩ := Option.map_eq_some_iff.mp hd
    have z := c_show_declaration (n := n) (h r (List.mem_of_getElem? hr)) hc
    simp! only [z]
    rw [take_at hr]; simp
  · rintro vs S' ⟨rfl, rfl⟩
    rw [List.length_map, List.take_length]
    have j := join_lst (S := S) (x := "; ") (ys := rs.map rT) (B := 140) (N := 24) (fun y m => by
      obtain ⟨r, hr, rfl⟩ := List.mem_map.mp m
      exact rT_len (h r hr)) (by simpa using hl) (by decide)
    simp! only [j, leave_int0 hc, leave_int hc, leave_bl0 hc, leave_bl hc, leave_str0 hc, leave_str hc, leave_non0 hc, leave_non hc, leave_tup0 hc, leave_tup hc, takeX hc, takeX0 hc]
    rfl
/-- [kind_text(kind) for kind in ..] -/
theorem wp_text {e : PE} {Q : D → Sto → Prop} {X : Nat → Sto → Prop} {a b c d : Option D} {ks : List Kd} (hk : ∀ k ∈ ks, k.ok) (hc : Cl S) (he : ∀ (Q' : D → Sto → Prop) X', Q' (.tup (ks.map Kd.d)) S → wpE (g0 (n + 1)) e Q' X' [a, b, c, d] S) (q : Q (.lst ((ks.map kT).map .str)) S) :
    wpE (g0 (n + 1)) (.comp (.nm 3) .val [e] [] (.call 22 [(.var 3)])) Q X [a, b, c, d] S := by
  refine wp_comp (fun j vs S' => vs = ((ks.take j).map kT).map .str ∧ S = S') ?_
  rw [wpEs_cons]
  refine he _ _ ?_
  simp only [wpEs_nil]
  refine ⟨_, none, items_tup, kds_settled ks, ⟨rfl, rfl⟩, fun _ _ _ _ => trivial, ?_, ?_⟩
  · rintro j y vs S' hd ⟨rfl, rfl⟩
    rw [List.getElem?_map] at hd
    obtain ⟨k, hk', rfl⟩ := Option.map_eq_some_iff.mp hd
    have z := c__law_kind_text (n := n) (hk k (List.mem_of_getElem? hk')) hc
    simp! only [z]
    rw [take_at hk']; simp
  · rintro vs S' ⟨rfl, rfl⟩
    rw [List.length_map, List.take_length]
    exact q
/-- the parts behind the name -/
def Rw.rest : Rw → List (List Kd × D)
  | .unk _ k => [([k], k.d)]
  | .fun_ _ ks k => [(ks, .tup (ks.map Kd.d)), ([k], k.d)]
  | .row _ a b => [([a], a.d), ([b], b.d)]
theorem rest_kinds (r : Rw) : (r.rest.map (·.1)).flatten = r.kinds := by cases r <;> rfl
theorem sl_rest (r : Rw) : slE S r.d (.int 2) .non = some (.tup (r.rest.map (·.2))) := by cases r <;> rfl
theorem rest_pure (r : Rw) : pures (r.rest.map (·.2)) = true := by
  cases r with
  | unk nm k => simp [Rw.rest, pures, kd_pure]
  | fun_ nm ks k => simp [Rw.rest, pures, kd_pure, kds_pure, D.pure]
  | row nm a b => simp [Rw.rest, pures, kd_pure]
theorem rest_mem {r : Rw} (h : r.ok) {p : List Kd × D} (hp : p ∈ r.rest) : (∀ k ∈ p.1, k.ok) ∧ p.1.length ≤ 2 ∧ ((∃ k : Kd, p.1 = [k] ∧ p.2 = k.d) ∨ (p.2 = .tup (p.1.map Kd.d) ∧ p.1 ≠ [])) := by
  have hk := h.kinds.2
  have hks := h.ks
  cases r with
  | unk nm k =>
    have e : p = ([k], k.d) := by simpa [Rw.rest] using hp
    subst e
    exact ⟨by simpa using hks, by simp, .inl ⟨k, rfl, rfl⟩⟩
  | fun_ nm ks k =>
    obtain ⟨⟨f1, f2, f3⟩, f4, _⟩ := hks
    have e : p = (ks, .tup (ks.map Kd.d)) ∨ p = ([k], k.d) := by simpa [Rw.rest] using hp
    rcases e with rfl | rfl
    · exact ⟨fun q m => (f3 q m).ok, f2, .inr ⟨rfl, fun e => by have e' : ks = [] := e; rw [e'] at f1; simp at f1⟩⟩
    · exact ⟨by simpa using f4, by simp, .inl ⟨k, rfl, rfl⟩⟩
  | row nm a b =>
    have e : p = ([a], a.d) ∨ p = ([b], b.d) := by simpa [Rw.rest] using hp
    rcases e with rfl | rfl
    · exact ⟨by simpa using hks.1.ok, by simp, .inl ⟨a, rfl, rfl⟩⟩
    · exact ⟨by simpa using hks.2.ok, by simp, .inl ⟨b, rfl, rfl⟩⟩
structure RtI (S : Sto) (r : Rw) (j : Nat) (ρ : Env) (Z : Sto) : Prop where
  ok : ∃ (i : Nat) (l : Sto) (u2 u3 : Option D), Z = S ++ l ∧ Cl Z ∧ S.length ≤ i ∧ Z[i]? = some (.lst ((r.word :: r.nm :: ((r.rest.take j).map (·.1)).flatten.map kT).map .str)) ∧ ρ = [some r.d, some (.ref i), u2, u3]
theorem c__law_row_text {r : Rw} (h : r.ok) (hc : Cl S) : F (n + 2) 23 [r.d] S = some (.ok (.str (rT r)) S) := by
  refine wpR_is (e__law_row_text (by simp only [settle_int, settle_str, settle_bl, settle_non, settle_ref, settle_fz, settle_exc, settle_tup, settle_lst, settle_dct, settles_nil, settles_cons, rw_settle]; rfl) ?_)
  unfold b__law_row_text
  obtain ⟨w1, w2, _⟩ := rWords_ok h
  have i0 : ∀ {S}, idxE S r.d (.int 0) = some (.str r.word) := by intro S; cases r <;> rfl
  have i1 : ∀ {S}, idxE S r.d (.int 1) = some (.str r.nm) := by intro S; cases r <;> rfl
  refine wp_then [some r.d, some (.ref S.length), none, none] (S ++ [.lst [.str r.word, .str r.nm]]) (fun Qn' q => by simp! only [i0, i1]; exact q) ?_
  rw [wpB_cons]
  refine wp_for (fun j ρ Z => RtI S r j ρ Z) ?_
  simp! only [sl_rest]
  refine ⟨_, none, items_tup, pures_settled _ (rest_pure r), ⟨S.length, _, none, none, rfl, hc.lst rfl, by omega, by simp, rfl⟩, fun _ _ _ _ => trivial, ?_, ?_⟩
  · rintro j y ρ Z hd ⟨i, l, u2, u3, hZ, hcZ, hi, hg, rfl⟩
    rw [List.getElem?_map] at hd
    obtain ⟨p, hp, rfl⟩ := Option.map_eq_some_iff.mp hd
    obtain ⟨pk, pl, pd⟩ := rest_mem h (List.mem_of_getElem? hp)
    have hfl : ((r.rest.take j).map (·.1)).flatten.length ≤ 3 := by
      have e := rest_kinds r
      have hk3 := h.kinds.1
      have : ((r.rest.take j).map (·.1)).flatten.length ≤ ((r.rest.map (·.1)).flatten).length := by
        conv => rhs; rw [← List.take_append_drop j r.rest, List.map_append, List.flatten_append, List.length_append]
        omega
      rw [e] at this
      omega
    have hsucc : ((r.rest.take (j + 1)).map (·.1)).flatten = ((r.rest.take j).map (·.1)).flatten ++ p.1 := by rw [take_at hp]; simp
    change wpB (g0 (n + 1)) [.ife _ [_] [_]] _ _ _ [some r.d, some (.ref i), some p.2, u3] Z
    rcases pd with ⟨k, e1, e2⟩ | ⟨e2, ne⟩
    · rw [e2]
      have z := c__law_kind_text (n := n) (k := k) (pk k (by rw [e1]; simp)) hcZ
      refine wp_ifF (fun Q' X' q => by simp! only [Kd.d, get_app, get_app0, set_app, set_app0, mutOf_r, listOf_r, dictOf_r, idx_r, idx_l, idx_f, idx_tup, mth_append, mth_pop, rcv_append, rcv_pop, rcv_extend, atI_0, atI_1, atI_2, atI_3, atI_4, add_rl, add_lr, add_ll, List.getElem?_cons_zero, List.getElem?_cons_succ]; exact q) ?_
      have hll : ((r.word :: r.nm :: ((r.rest.take j).map (·.1)).flatten.map kT).map D.str).length < 16777216 := by simp only [List.length_map, List.length_cons]; omega
      simp! only [get_app, get_app0, set_app, set_app0, mutOf_r, listOf_r, dictOf_r, idx_r, idx_l, idx_f, idx_tup, mth_append, mth_pop, rcv_append, rcv_pop, rcv_extend, atI_0, atI_1, atI_2, atI_3, atI_4, add_rl, add_lr, add_ll, List.getElem?_cons_zero, List.getElem?_cons_succ, hg, z, hll]
      obtain ⟨hlen, _⟩ := List.getElem?_eq_some_iff.mp hg
      have hpu : pures ((r.word :: r.nm :: ((r.rest.take j).map (·.1)).flatten.map kT).map D.str ++ [D.str (kT k)]) = true := by
        have : (r.word :: r.nm :: ((r.rest.take j).map (·.1)).flatten.map kT).map D.str ++ [D.str (kT k)] = ((r.word :: r.nm :: ((r.rest.take j).map (·.1)).flatten.map kT) ++ [kT k]).map D.str := by simp
        rw [this]; exact strs_pure _
      refine ⟨i, l.set (i - S.length) (.lst ((r.word :: r.nm :: ((r.rest.take j).map (·.1)).flatten.map kT).map D.str ++ [D.str (kT k)])), _, _, ?_, hcZ.set (by unfold D.under; exact pures_under _ _ hpu), hi, ?_, rfl⟩
      · rw [hZ, List.set_append_right _ _ hi]
      · rw [List.getElem?_set_self hlen, hsucc, e1]; simp
    · rw [e2]
      obtain ⟨k0, kr, ek⟩ : ∃ k0 kr, p.1 = k0 :: kr := by
        cases hp1 : p.1 with
        | nil => exact absurd hp1 ne
        | cons a b => exact ⟨a, b, rfl⟩
      refine wp_ifT (fun Q' X' q => by rw [ek]; simp! only [get_app, get_app0, set_app, set_app0, mutOf_r, listOf_r, dictOf_r, idx_r, idx_l, idx_f, idx_tup, mth_append, mth_pop, rcv_append, rcv_pop, rcv_extend, atI_0, atI_1, atI_2, atI_3, atI_4, add_rl, add_lr, add_ll, List.getElem?_cons_zero, List.getElem?_cons_succ, List.map_cons, Kd.d]; exact q) ?_
      rw [wpB_cons, wpS_set, wpE_bin, wpE_var]
      simp only [getV_0, getV_s, wpO_some]
      refine wp_text (ks := p.1) pk hcZ (fun Q' X' q => by simp! only [wpB_nil]; exact q) ?_
      have ad := add_rl' (b := (p.1.map kT).map D.str) hg (by simp only [List.length_map, List.length_cons]; omega)
      have hpu : (r.word :: r.nm :: ((r.rest.take j).map (·.1)).flatten.map kT).map D.str ++ (p.1.map kT).map D.str = ((r.word :: r.nm :: ((r.rest.take j).map (·.1)).flatten.map kT) ++ p.1.map kT).map D.str := by simp
      rw [hpu] at ad
      simp! only [ad, settles_pure _ _ (strs_pure _)]
      refine ⟨Z.length, l ++ [_], _, _, by rw [hZ, List.append_assoc], hcZ.lst (strs_pure _), by rw [hZ]; simp, ?_, rfl⟩
      rw [hsucc]; simp
  · rintro ρ Z ⟨i, l, u2, u3, rfl, hcZ, hi, hg, rfl⟩
    rw [List.length_map, List.take_length, rest_kinds] at hg
    have hg' : (S ++ l)[i]? = some (.lst ((rWords r).map .str)) := hg
    simp! only [rcv_join, join_ref (x := " ") hg' w2 w1 (by decide)]
    rw [leave_pu0 hc rfl]
    exact ⟨rfl, rfl⟩
theorem c__law_world_text {rs : List Rw} (h : ∀ r ∈ rs, r.ok) (hl : rs.length ≤ 24) (hc : Cl S) : F (n + 3) 24 [wd rs] S = some (.ok (.str (wT rs)) S) := by
  refine wpR_is (e__law_world_text (by simp only [settle_int, settle_str, settle_bl, settle_non, settle_ref, settle_fz, settle_exc, settle_tup, settle_lst, settle_dct, settles_nil, settles_cons, settles_rw]; rfl) ?_)
  unfold b__law_world_text
  simp! only [rcv_join]
  refine wp_comp (fun j vs S' => vs = ((rs.take j).map rT).map .str ∧ S = S') ?_
  simp! only [wpB_nil]
  refine ⟨_, none, items_tup, pures_settled _ (rws_pure rs), ⟨rfl, rfl⟩, fun _ _ _ _ => trivial, ?_, ?_⟩
  · rintro j y vs S' hd ⟨rfl, rfl⟩
    rw [List.getElem?_map] at hd
    obtain ⟨r, hr, rfl⟩ := Option.map_eq_some_iff.mp hd
    have z := c__law_row_text (n := n) (h r (List.mem_of_getElem? hr)) hc
    simp! only [z]
    rw [take_at hr]; simp
  · rintro vs S' ⟨rfl, rfl⟩
    rw [List.length_map, List.take_length]
    have j := join_lst (S := S) (x := "; ") (ys := rs.map rT) (B := 140) (N := 24) (fun y m => by
      obtain ⟨r, hr, rfl⟩ := List.mem_map.mp m
      exact rT_len (h r hr)) (by simpa using hl) (by decide)
    simp! only [j, leave_int0 hc, leave_int hc, leave_bl0 hc, leave_bl hc, leave_str0 hc, leave_str hc, leave_non0 hc, leave_non hc, leave_tup0 hc, leave_tup hc, takeX hc, takeX0 hc]
    rfl
end Pg
end
section
set_option Elab.async false
set_option linter.all false
set_option maxRecDepth 100000
set_option maxHeartbeats 8000000
namespace Pg
open Ev
local macro_rules
  | `(tactic| simp! only [$as,*] $[$l]?) => `(tactic| simp only [wpB_cons, wpB_nil, wpS_set, wpS_setT, wpS_par, wpS_setI, wpS_expr, wpS_ret, wpS_ife, wpS_raise, wpS_try, wpS_aug, wpE_var, wpE_cst, wpE_tup, wpE_lst, wpE_dct0, wpE_bin, wpE_neg, wpE_not, wpE_and, wpE_or, wpE_cmp, wpE_cmp2, wpE_is, wpE_ife, wpE_idx, wpE_sl, wpE_call, wpE_blt, wpE_mth, wpE_isi, wpEs_nil, wpEs_cons, wpR_ok, wpR_ex, wpO_some, wpO_map, wpT_true, wpT_false, wpT_not, wpIfs_nil, wpIfs_one, getV_0, getV_s, List.set_cons_succ, List.set_cons_zero, g0_F, g0_isa, truth_non, truth_bl, truth_int, truth_tup, truth_lst, truth_fz, Option.map_some, Option.isSome_some, if_true, Bool.false_eq_true, if_false, Bool.not_true, Bool.not_false, isPart, setTg, setNames, bin_add, bin_sub, cmp_lt, cmp_gt, cmp_le, cmp_ge, cmp_eq, orD_some, cmp_ne, eq_int, eq_str, abs_int, tuple_seq, list_seq, seqOf_tup, seqOf_lst, seqOf_fz, seqOf_ref, int_bl, mdl, fdl, min2, max2, pu_non, pu_bl, pu_int, pu_str, pu_nil, pu_cons, pure_tup, Bool.and_self, Int.reduceLT, and_true, true_and, decide_true, decide_false, isC_b_non, isC_n_bl, isC_n_int, isC_b_int, isC_n_str, isC_b_str, isC_n_tup, isC_b_tup, isC_n_lst, isC_b_lst, isC_n_fz, isC_b_fz, isC_n_dct, isC_b_dct, isC_n_ref, isC_b_ref, isC_n_exc, isC_b_exc, isC_n_non, isC_true_true_true, isC_true_true_false, isC_true_false_true, isC_true_false_false, isC_false_true_true, isC_false_true_false, isC_false_false_true, isC_false_false_false, isTys_nil, isTys_c, isTy_exv, isTy_exc, isTy_non_int, isTy_non_str, isTy_non_tuple, isTy_non_list, isTy_non_dict, isTy_non_bool, isTy_bl_int, isTy_bl_str, isTy_bl_tuple, isTy_bl_list, isTy_bl_dict, isTy_bl_bool, isTy_int_int, isTy_int_str, isTy_int_tuple, isTy_int_list, isTy_int_dict, isTy_int_bool, isTy_str_int, isTy_str_str, isTy_str_tuple, isTy_str_list, isTy_str_dict, isTy_str_bool, isTy_tup_int, isTy_tup_str, isTy_tup_tuple, isTy_tup_list, isTy_tup_dict, isTy_tup_bool, isTy_lst_int, isTy_lst_str, isTy_lst_tuple, isTy_lst_list, isTy_lst_dict, isTy_lst_bool, isTy_fz_int, isTy_fz_str, isTy_fz_tuple, isTy_fz_list, isTy_fz_dict, isTy_fz_bool, isTy_dct_int, isTy_dct_str, isTy_dct_tuple, isTy_dct_list, isTy_dct_dict, isTy_dct_bool, Option.bind_some, settle_int, settle_str, settle_bl, settle_non, settle_ref, settle_fz, settle_exc, settle_tup, settle_lst, settle_dct, settles_nil, settles_cons, $as,*] $[$l]?)
variable {n : Nat} {S : Sto}
theorem made_body {dv : D} {its : List D} (hd : Its S dv its) (hth : ∀ x ∈ its, Th S x) (hs : ∀ x ∈ its, ∀ s, att x 1 = .str s → s.length ≤ 16777216) (hc : Cl S) :
    wpB (g0 (n + 4)) b_made_world (fun _ _ => False) (fun d S' => (decide (its.length ≤ 24) && goodW [] its) = true ∧ d = .tup its ∧ ∃ l, S' = S ++ l) (fun c S' => (decide (its.length ≤ 24) && goodW [] its) = false ∧ c = 1 ∧ ∃ l, S' = S ++ l) [some dv, none, none] S := by
  unfold b_made_world
  have hl : bltE S .len [dv] = some (.int its.length) := len_seq hd.seq
  have hty : isTys (isaX 5) S dv [.list, .tuple] = some true := by
    rcases hd with rfl | ⟨j, rfl, h2⟩
    · simp! only [wpB_nil]
    · simp! only [isTy_rl_list h2]
  simp only [wpB_cons, wpS_ife, wpE_or, wpE_not, wpE_isi, wpE_var, getV_0, wpO_some, g0_isa, hty]
  simp! only [hl]
  refine wpT_d (fun h => ?_) fun h => ?_
  · simp! only [wpB_nil]
    have : ¬ its.length ≤ 24 := by omega
    exact ⟨by simp [this], ⟨[], by simp⟩⟩
  · have hlen : its.length ≤ 24 := by omega
    have hb : (decide (its.length ≤ 24) && goodW [] its) = goodW [] its := by simp [hlen]
    rw [hb]
    simp! only [wpB_nil]
    refine wp_for (fun k ρ S' => ∃ K kv, goodW [] its = goodW K (its.drop k) ∧ K.length = k ∧ ρ = [some dv, some (.ref S.length), kv] ∧ S' = S ++ [dN K]) ?_
    simp! only [wpB_nil]
    obtain ⟨lk, hi, hlk⟩ := (hd.app (l := [.dct [] []])).items
    refine ⟨its, lk, hi, ?_, ⟨[], none, rfl, rfl, rfl, rfl⟩, ?_, ?_, ?_⟩
    · rw [settleds_all, List.all_eq_true]
      exact fun x m => (hth x m).settled
    · rintro k ρ S' ⟨K, kv, _, _, _, rfl⟩
      exact hlk _ hd.app
    · rintro k x ρ S' hx0 ⟨K, kv, hg, hK, rfl, rfl⟩
      have hm := List.mem_of_getElem? hx0
      have hcl : Cl (S ++ [dN K]) := hc.app (by simp [unders, dN_under])
      have h6 := c_is_declaration (n := n) (hth x hm).app (hs x hm) hcl
      have hsp := good_split hx0 hg
      simp! only [h6]
      refine wpT_i (fun h7 => ?_) fun h7 => ?_
      · obtain ⟨ds, tag, e⟩ := decl_name h7
        have hat : ∀ S, idxE S x (.int 1) = some (.str (nmOf x)) := fun S => by
          conv => lhs; rw [e]
          rfl
        have hget : (S ++ [dN K])[S.length]? = some (dN K) := by simp
        simp! only [hat, cmp_in, in_dN hget]
        refine wpT_d (fun h8 => ?_) fun h8 => ?_
        · simp! only [wpB_nil]
          exact ⟨by rw [hsp]; simp [h8], ⟨[dN K], rfl⟩⟩
        · have hkl := (List.getElem?_eq_some_iff.mp hx0).1
          simp! only [hat, setI_new hget (by omega) h8, set_app0, List.set_cons_zero]
          exact ⟨K ++ [nmOf x], some x, by rw [hsp]; simp [h7, h8], by simp [hK], rfl, rfl⟩
      · simp! only [h7]
        exact ⟨by rw [hsp]; simp [h7], ⟨[dN K], rfl⟩⟩
    · rintro ρ S' ⟨K, kv, hg, hK, rfl, rfl⟩
      have hsq : Ev.seqOf (S ++ [dN K]) dv = some its := hd.app.seq
      simp only [wpB_cons, wpS_ret, wpE_blt, wpEs_cons, wpE_var, getV_0, wpO_some, wpEs_nil, tuple_seq, hsq, Option.map_some]
      exact ⟨by rw [hg, List.drop_length]; rfl, by first | rfl | trivial, ⟨[dN K], rfl⟩⟩
theorem c_made_own {its : List D} (hp : pures its = true) (hs : ∀ x ∈ its, ∀ s, att x 1 = .str s → s.length ≤ 16777216) (hg : (decide (its.length ≤ 24) && goodW [] its) = true) (hc : Cl S) : F (n + 5) 7 [.lst its] S = some (.ok (.tup its) S) := by
  refine wpR_is (e_made_world (by simp only [settle_int, settle_str, settle_bl, settle_non, settle_ref, settle_fz, settle_exc, settle_tup, settle_lst, settle_dct, settles_nil, settles_cons, settles_pure _ _ hp]; rfl) ?_)
  have hc1 : Cl (S ++ [.lst its]) := hc.lst hp
  have hit : Its (S ++ [.lst its]) (.ref S.length) its := .inr ⟨_, rfl, by simp⟩
  have mb := made_body (n := n) hit (fun x m => .inl (.inl (pures_mem hp m))) hs hc1
  refine wpB_mono mb (fun _ _ z => z.elim) (fun d S' h => ?_) fun c S' h => ?_
  · obtain ⟨_, rfl, l, rfl⟩ := h
    rw [List.append_assoc, leave_pu0 hc (by rw [pure_tup]; exact hp)]
    exact ⟨rfl, rfl⟩
  · rw [hg] at h
    exact absurd h.1 (by decide)
theorem let_ok : ∀ j : Fin 26, isLet (97 + j.val) = true := by decide +kernel
theorem isLet_of {c : Nat} (h1 : 97 ≤ c) (h2 : c < 123) : isLet c = true := by
  have := let_ok ⟨c - 97, by omega⟩
  rwa [show 97 + (c - 97) = c by omega] at this
theorem Nm.is {s : PySem.Str} (h : Nm s) : isNm s = true := by
  unfold isNm
  have h1 := h.lo
  have h2 := h.hi
  simp only [h1, h2, decide_true, Bool.true_and, Bool.and_self, List.all_eq_true]
  exact fun c m => isLet_of (h.ch c m).1 (h.ch c m).2
theorem good_of : ∀ {its : List D} {K : List PySem.Str}, (∀ d ∈ its, isDecl d = true) → (K ++ its.map nmOf).Nodup → goodW K its = true
  | [], _, _, _ => rfl
  | d :: its, K, h, nd => by
    unfold goodW
    rw [h d List.mem_cons_self]
    have nd' : (K ++ nmOf d :: its.map nmOf).Nodup := by simpa using nd
    have h1 : nmOf d ∉ K := fun m => (List.nodup_append.mp nd').2.2 _ m _ List.mem_cons_self rfl
    rw [good_of (fun x m => h x (List.mem_cons_of_mem _ m)) (by simpa using nd')]
    simp [h1]
theorem place_is {k : Kd} (h : k.place) : isPlace k.d = true := by
  cases k with
  | fraction => decide +kernel
  | table k =>
    obtain ⟨h1, h2⟩ := h
    unfold isPlace
    rw [if_pos (show isTg (Kd.table k).d "table" 2 = true by simp [Kd.d, Kd.tag, Kd.ints, isTg])]
    show isInt (.int k) 2 5 = true
    simp [isInt, h1, h2]
  | _ => exact h.elim
theorem range_is {a b : Int} (h : (Kd.range a b).ok) : isRange (Kd.range a b).d = true := by
  obtain ⟨h1, h2, h3, h4, h5⟩ := h
  unfold isRange
  have e1 : isTg (Kd.range a b).d "range" 3 = true := by simp [Kd.d, Kd.tag, Kd.ints, isTg]
  have e2 : att (Kd.range a b).d 1 = .int a := rfl
  have e3 : att (Kd.range a b).d 2 = .int b := rfl
  rw [e1, e2, e3]
  simp only [isInt, Bool.true_and, Bool.and_eq_true, decide_eq_true_eq]
  refine ⟨⟨by omega, by omega⟩, by omega, ?_⟩
  split <;> omega
theorem decl_is {r : Rw} (h : r.ok) : isDecl r.d = true := by
  have hk := h.ks
  have hn : isNm r.nm = true := h.nm.is
  unfold isDecl
  have e1 : isName (att r.d 1) = true := by cases r <;> exact hn
  rw [e1, Bool.and_true]
  unfold isKnown
  cases r with
  | unk nm k =>
    rw [if_pos (show isTg (Rw.unk nm k).d "unknown" 3 = true by simp [Rw.d, isTg])]
    show (isPlace k.d || (isRange k.d || isTg k.d "truth" 1)) = true
    cases k with
    | truth => rw [show isTg Kd.truth.d "truth" 1 = true by decide +kernel]; simp
    | range a b => rw [range_is hk]; simp
    | fraction => rw [place_is (k := .fraction) trivial]; rfl
    | table k => rw [place_is (k := .table k) hk]; rfl
  | fun_ nm ks k =>
    obtain ⟨⟨f1, f2, f3⟩, f4, f5⟩ := hk
    have q1 : ("function" : PySem.Str) ≠ "unknown" := by decide
    rw [if_neg (show ¬ isTg (Rw.fun_ nm ks k).d "unknown" 3 = true by simp [Rw.d, isTg]), if_pos (show isTg (Rw.fun_ nm ks k).d "function" 4 = true by simp [Rw.d, isTg])]
    show (arePl (.tup (ks.map Kd.d)) && (isPlace k.d || isRange k.d)) = true
    have a1 : arePl (.tup (ks.map Kd.d)) = true := by
      unfold arePl
      have : ks.length = 1 ∨ ks.length = 2 := by omega
      simp only [List.length_map, Bool.and_eq_true, Bool.or_eq_true, decide_eq_true_eq, List.all_eq_true]
      refine ⟨this, fun x m => ?_⟩
      obtain ⟨q, hq, rfl⟩ := List.mem_map.mp m
      exact place_is (f3 q hq)
    rw [a1]
    cases k with
    | truth => exact absurd rfl f5
    | range a b => rw [range_is f4]; simp
    | fraction => rw [place_is (k := .fraction) trivial]; rfl
    | table k => rw [place_is (k := .table k) f4]; rfl
  | row nm a b =>
    have q1 : ("row" : PySem.Str) ≠ "unknown" := by decide
    rw [if_neg (show ¬ isTg (Rw.row nm a b).d "unknown" 3 = true by simp [Rw.d, isTg]), if_neg (show ¬ isTg (Rw.row nm a b).d "function" 4 = true by
      have q2 : ¬ ("row" : PySem.Str) = "function" := by decide
      simp [Rw.d, isTg, q2])]
    show (isTg (Rw.row nm a b).d "row" 4 && (isPlace a.d && isPlace b.d)) = true
    rw [place_is hk.1, place_is hk.2, show isTg (Rw.row nm a b).d "row" 4 = true by simp [Rw.d, isTg]]; rfl
structure Wd (rs : List Rw) : Prop where
  ok : ∀ r ∈ rs, r.ok
  len : rs.length ≤ 24
  nd : (rs.map Rw.nm).Nodup
theorem nm_of (r : Rw) : nmOf r.d = r.nm := by cases r <;> rfl
theorem Wd.good {rs : List Rw} (w : Wd rs) : (decide ((rs.map Rw.d).length ≤ 24) && goodW [] (rs.map Rw.d)) = true := by
  have h1 := w.len
  rw [List.length_map, decide_eq_true h1, Bool.true_and]
  refine good_of (fun d m => ?_) ?_
  · obtain ⟨r, hr, rfl⟩ := List.mem_map.mp m
    exact decl_is (w.ok r hr)
  · rw [List.nil_append, List.map_map]
    have : (nmOf ∘ Rw.d) = Rw.nm := funext nm_of
    rw [this]; exact w.nd
theorem neg_int {i : Int} : (match (D.int i) with | .int i => some i | _ => none) = some i := rfl
theorem sl_neg1 {k : Nat} {ds : List D} {x : D} (h : S[k]? = some (.lst (ds ++ [x]))) : slE S (.ref k) .non (.int (-1)) = some (.lst ds) := by
  have hl := listOf_ref h
  show (match Ev.listOf S (.ref k) with | some ds => (match sIx ds.length 0 .non, sIx ds.length ds.length (.int (-1)) with | some i, some j => some (D.lst (cut ds i j)) | _, _ => none) | none => none) = _
  rw [hl]
  show some (D.lst (cut (ds ++ [x]) 0 (if (-1 : Int) < 0 then (-1 + ((ds ++ [x]).length : Int)).toNat else _))) = _
  rw [if_pos (by decide)]
  unfold cut
  have : (-1 + ((ds ++ [x]).length : Int)).toNat = ds.length := by simp; omega
  rw [this, List.drop_zero, Nat.sub_zero, List.take_left]
theorem ix_neg1 {k : Nat} {ds : List D} {x : D} (h : S[k]? = some (.lst (ds ++ [x]))) : idxE S (.ref k) (.int (-1)) = some x := by
  rw [idx_ref h]
  unfold Ev.atI
  rw [if_neg (by decide), if_pos (by simp; omega)]
  have : (-1 + ((ds ++ [x]).length : Int)).toNat = ds.length := by simp; omega
  rw [this]; simp
theorem joinL_head {sep p : List Nat} {ps : List (List Nat)} : p.length ≤ (TL.joinL sep (p :: ps)).length := by
  cases ps with
  | nil => exact Nat.le_refl _
  | cons q r =>
    show p.length ≤ (p ++ (sep ++ TL.joinL sep (q :: r))).length
    rw [List.length_append]; omega
theorem join_head {y x : PySem.Str} {xs : List PySem.Str} : x.length ≤ (PySem.Txt.join y (x :: xs)).length := by
  rw [TL.join_eq, TL.len_tl, TL.len_tl, TL.tl_join, List.map_cons]
  exact joinL_head
theorem wT_ne {r : Rw} {rs : List Rw} : wT (r :: rs) ≠ "" := fun e => by
  have h1 : (rT r).length ≤ (wT (r :: rs)).length := join_head
  have h2 : r.word.length ≤ (rT r).length := join_head
  have h3 : 3 ≤ r.word.length := by
    have a1 : 3 ≤ ("unknown" : PySem.Str).length := by decide
    have a2 : 3 ≤ ("function" : PySem.Str).length := by decide
    have a3 : 3 ≤ ("row" : PySem.Str).length := by decide
    cases r with
    | unk a b => exact a1
    | fun_ a b c => exact a2
    | row a b c => exact a3
  rw [e] at h1
  have h4 : ("" : PySem.Str).length = 0 := by decide
  omega
end Pg
end
section
set_option Elab.async false
set_option linter.all false
set_option maxRecDepth 100000
set_option maxHeartbeats 8000000
namespace Pg
open Ev
local macro_rules
  | `(tactic| simp! only [$as,*] $[$l]?) => `(tactic| simp only [wpB_cons, wpB_nil, wpS_set, wpS_setT, wpS_par, wpS_setI, wpS_expr, wpS_ret, wpS_ife, wpS_raise, wpS_try, wpS_aug, wpE_var, wpE_cst, wpE_tup, wpE_lst, wpE_dct0, wpE_bin, wpE_neg, wpE_not, wpE_and, wpE_or, wpE_cmp, wpE_cmp2, wpE_is, wpE_ife, wpE_idx, wpE_sl, wpE_call, wpE_blt, wpE_mth, wpE_isi, wpEs_nil, wpEs_cons, wpR_ok, wpR_ex, wpO_some, wpO_map, wpT_true, wpT_false, wpT_not, wpIfs_nil, wpIfs_one, getV_0, getV_s, List.set_cons_succ, List.set_cons_zero, g0_F, g0_isa, truth_non, truth_bl, truth_int, truth_tup, truth_lst, truth_fz, Option.map_some, Option.isSome_some, if_true, Bool.false_eq_true, if_false, Bool.not_true, Bool.not_false, isPart, setTg, setNames, bin_add, bin_sub, cmp_lt, cmp_gt, cmp_le, cmp_ge, cmp_eq, orD_some, cmp_ne, eq_int, eq_str, abs_int, tuple_seq, list_seq, seqOf_tup, seqOf_lst, seqOf_fz, seqOf_ref, int_bl, mdl, fdl, min2, max2, pu_non, pu_bl, pu_int, pu_str, pu_nil, pu_cons, pure_tup, Bool.and_self, Int.reduceLT, and_true, true_and, decide_true, decide_false, isC_b_non, isC_n_bl, isC_n_int, isC_b_int, isC_n_str, isC_b_str, isC_n_tup, isC_b_tup, isC_n_lst, isC_b_lst, isC_n_fz, isC_b_fz, isC_n_dct, isC_b_dct, isC_n_ref, isC_b_ref, isC_n_exc, isC_b_exc, isC_n_non, isC_true_true_true, isC_true_true_false, isC_true_false_true, isC_true_false_false, isC_false_true_true, isC_false_true_false, isC_false_false_true, isC_false_false_false, isTys_nil, isTys_c, isTy_exv, isTy_exc, isTy_non_int, isTy_non_str, isTy_non_tuple, isTy_non_list, isTy_non_dict, isTy_non_bool, isTy_bl_int, isTy_bl_str, isTy_bl_tuple, isTy_bl_list, isTy_bl_dict, isTy_bl_bool, isTy_int_int, isTy_int_str, isTy_int_tuple, isTy_int_list, isTy_int_dict, isTy_int_bool, isTy_str_int, isTy_str_str, isTy_str_tuple, isTy_str_list, isTy_str_dict, isTy_str_bool, isTy_tup_int, isTy_tup_str, isTy_tup_tuple, isTy_tup_list, isTy_tup_dict, isTy_tup_bool, isTy_lst_int, isTy_lst_str, isTy_lst_tuple, isTy_lst_list, isTy_lst_dict, isTy_lst_bool, isTy_fz_int, isTy_fz_str, isTy_fz_tuple, isTy_fz_list, isTy_fz_dict, isTy_fz_bool, isTy_dct_int, isTy_dct_str, isTy_dct_tuple, isTy_dct_list, isTy_dct_dict, isTy_dct_bool, Option.bind_some, settle_int, settle_str, settle_bl, settle_non, settle_ref, settle_fz, settle_exc, settle_tup, settle_lst, settle_dct, settles_nil, settles_cons, $as,*] $[$l]?)
variable {n : Nat} {S : Sto}
theorem c__law_stream {m : Nat} {c : Int} (hm : m ≤ 1000) (hc : Cl S) : ∃ xs : List Int, xs.length = m ∧ Str1 xs ∧ F (n + 1) 16 [.int c, .int m] S = some (.ok (.lst (xs.map .int)) S) := by
  have key : wpR (fun a S' => ∃ xs : List Int, xs.length = m ∧ Str1 xs ∧ a = .lst (xs.map .int) ∧ S' = S) (fun _ _ => False) (F (n + 1) 16 [.int c, .int m] S) := by
    refine e__law_stream (by simp only [settle_int, settle_str, settle_bl, settle_non, settle_ref, settle_fz, settle_exc, settle_tup, settle_lst, settle_dct, settles_nil, settles_cons]; rfl) ?_
    unfold b__law_stream
    simp! only [wpB_nil]
    refine wp_for (fun k ρ S' => ∃ (xs : List Int) (left : Int) (kv : Option D), xs.length = k ∧ Str1 xs ∧ ρ = [some (.int c), some (.int m), some (.ref S.length), some (.int left), kv, none, none, none] ∧ S' = S ++ [.lst (xs.map .int)]) ?_
    simp! only [wpB_nil]
    refine ⟨_, none, items_r1 (by omega) (by omega), rng_settled, ⟨[], _, none, rfl, by simp [Str1], rfl, rfl⟩, fun _ _ _ _ => trivial, ?_, ?_⟩
    · rintro k d ρ S' hd ⟨xs, left, kv, hx, hs, rfl, rfl⟩
      obtain ⟨rfl, hk⟩ := rng_at hd
      have hg : (S ++ [D.lst (xs.map .int)])[S.length]? = some (.lst (xs.map .int)) := by simp
      have b := fmod_bd (i := left) (j := 1000003) (by decide)
      simp! only [rcv_lst hg, app_lst hg (by simp; omega) (v := .int _) rfl, set_app0, List.set_cons_zero]
      refine ⟨xs ++ [left.fmod 1000003], left.fdiv 1000003, some (.int k), by simp [hx], ?_, rfl, by simp⟩
      intro x hx
      rcases List.mem_append.mp hx with hx | hx
      · exact hs x hx
      · have : x = left.fmod 1000003 := by simpa using hx
        omega
    · rintro ρ S' ⟨xs, left, kv, hx, hs, rfl, rfl⟩
      rw [rng_len] at hx
      simp! only [wpB_nil]
      refine wpT_d (fun hleft => ?_) fun hleft => ?_
      · simp! only [wpB_nil]
        rw [leave_l0 (S := S) (l := [.lst (xs.map .int)]) hc rfl (ints_pure xs)]
        exact ⟨xs, by simpa using hx, hs, rfl, rfl⟩
      · simp! only [List.length_append, List.length_cons, List.length_nil, List.append_assoc, List.cons_append, List.nil_append]
        refine wp_for (fun k ρ S' => ∃ (ys : List Int) (u v : Int) (kv : Option D), ys.length = k ∧ Str1 ys ∧ (0 ≤ u ∧ u < 2 ^ 40) ∧ (0 ≤ v ∧ v < 2 ^ 40) ∧ ρ = [some (.int c), some (.int m), some (.ref S.length), some (.int left), kv, some (.ref (S.length + 1)), some (.int u), some (.int v)] ∧ S' = S ++ [.lst (xs.map .int), .lst (ys.map .int)]) ?_
        simp! only [wpB_nil]
        have b1 := fmod_bd (i := c) (j := 2147483647) (by omega)
        have b2 := fmod_bd (i := c) (j := 2147483629) (by omega)
        refine ⟨_, none, items_r1 (by omega) (by omega), rng_settled, ⟨[], _, _, kv, rfl, by simp [Str1], ⟨by omega, by omega⟩, ⟨by omega, by omega⟩, rfl, rfl⟩, fun _ _ _ _ => trivial, ?_, ?_⟩
        · rintro k d ρ S' hd ⟨ys, u, v, kv, hy, hs2, hu, hv, rfl, rfl⟩
          obtain ⟨rfl, hk⟩ := rng_at hd
          have hg : (S ++ [D.lst (xs.map .int), .lst (ys.map .int)])[S.length + 1]? = some (.lst (ys.map .int)) := by rw [get_app]; rfl
          have q1 := fmod_bd (i := u * 48271) (j := 2147483647) (by omega)
          have q2 := fmod_bd (i := v * 69621 + k) (j := 2147483629) (by omega)
          have w1 : ∀ {S}, binE S .mul (.int u) (.int 48271) = some (.int (u * 48271)) := bin_mul (mul_small (by omega) (by decide))
          have w2 : ∀ {S}, binE S .mul (.int v) (.int 69621) = some (.int (v * 69621)) := bin_mul (mul_small (by omega) (by decide))
          simp! only [w1, w2, rcv_lst hg, app_lst hg (by simp; omega) (v := .int _) rfl, set_app, List.set_cons_zero, List.set_cons_succ]
          refine ⟨ys ++ [((u * 48271).fmod 2147483647 + (v * 69621 + k).fmod 2147483629).fdiv 7], _, _, some (.int k), by simp [hy], ?_, ⟨q1.1, by omega⟩, ⟨q2.1, by omega⟩, rfl, by simp⟩
          intro x hx
          rcases List.mem_append.mp hx with hx | hx
          · exact hs2 x hx
          · have e : x = ((u * 48271).fmod 2147483647 + (v * 69621 + k).fmod 2147483629).fdiv 7 := by simpa using hx
            rw [Int.fdiv_eq_ediv_of_nonneg _ (by decide)] at e
            omega
        · rintro ρ S' ⟨ys, u, v, kv, hy, hs2, hu, hv, rfl, rfl⟩
          rw [rng_len] at hy
          simp! only [wpB_nil]
          rw [leave_lst (S := S) (l := [.lst (xs.map .int), .lst (ys.map .int)]) (k := 1) hc rfl (ints_pure ys)]
          exact ⟨ys, by simpa using hy, hs2, rfl, rfl⟩
  obtain ⟨a, S', e, xs, h1, h2, rfl, rfl⟩ := wpR_out key
  exact ⟨xs, h1, h2, e⟩
theorem c__law_take {i : Nat} {xs : List Int} (hc : Cl S) (hS : S[i]? = some (.lst (xs.map .int))) : ∃ (x : Int) (xs' : List Int), F (n + 1) 17 [.ref i] S = some (.ok (.int x) (S.set i (.lst (xs'.map .int)))) := by
  have key : wpR (fun t S' => ∃ (x : Int) (xs' : List Int), t = .int x ∧ S' = S.set i (.lst (xs'.map .int))) (fun _ _ => False) (F (n + 1) 17 [.ref i] S) := by
    refine e__law_take (by simp only [settle_int, settle_str, settle_bl, settle_non, settle_ref, settle_fz, settle_exc, settle_tup, settle_lst, settle_dct, settles_nil, settles_cons]; rfl) ?_
    unfold b__law_take
    have hl := len_ref hS
    rw [List.length_map] at hl
    rcases List.eq_nil_or_concat xs with rfl | ⟨ys, y, rfl⟩
    · simp! only [hl, List.length_nil, Int.natCast_zero, leave_int0 hc, leave_int hc, leave_bl0 hc, leave_bl hc, leave_str0 hc, leave_str hc, leave_non0 hc, leave_non hc, leave_tup0 hc, leave_tup hc, takeX hc, takeX0 hc]
      exact ⟨0, [], by first | rfl | trivial, (set_same hS).symm⟩
    · have hm : (ys.concat y).map D.int = ys.map D.int ++ [D.int y] := by simp
      have h0 : ¬ (((ys.concat y).length : Nat) : Int) = 0 := by simp; omega
      rw [hm] at hS
      have hp : mthE .pop (.ref i) [] S = some (.int y, S.set i (.lst (ys.map .int))) := by
        rw [mth_pop, hS]
        simp
      simp! only [hl, h0, rcv_popl hS, hp]
      rw [leave_si0 hc rfl]
      exact ⟨y, ys, rfl, rfl⟩
  obtain ⟨a, S', e, x, xs', rfl, rfl⟩ := wpR_out key
  exact ⟨x, xs', e⟩
theorem nm_mk {l : List Nat} (h1 : 1 ≤ l.length) (h2 : l.length ≤ 8) (h3 : ∀ c ∈ l, 97 ≤ c ∧ c < 123) : Nm ⟨l.toArray⟩ := ⟨by rw [TL.len_tl]; exact h1, by rw [TL.len_tl]; exact h2, h3⟩
theorem nm_rep {c k : Nat} (hc : 97 ≤ c ∧ c < 123) : ∀ x ∈ List.replicate k c, 97 ≤ x ∧ x < 123 := fun x m => by rw [(List.mem_replicate.mp m).2]; exact hc
def someW : List PySem.Str := ["is", "all", "plus", "of", "truth", "table", "unknown", "row", "world", "not", "read", "write"]
theorem someW_ok : ∀ s ∈ someW, 1 ≤ s.length ∧ s.length ≤ 7 ∧ ∀ c ∈ TL.tl s, 97 ≤ c ∧ c < 123 := by decide +kernel
theorem c__law_name {k : Nat} {x : Int} (hk : k < 26) (hc : Cl S) : ∃ s, Nm s ∧ F (n + 1) 18 [.int k, .int x] S = some (.ok (.str s) S) := by
  have key : wpR (fun a S' => ∃ s, Nm s ∧ a = .str s ∧ S' = S) (fun _ _ => False) (F (n + 1) 18 [.int k, .int x] S) := by
    refine e__law_name (by simp only [settle_int, settle_str, settle_bl, settle_non, settle_ref, settle_fz, settle_exc, settle_tup, settle_lst, settle_dct, settles_nil, settles_cons]; rfl) ?_
    unfold b__law_name
    have lk : ∀ {S}, idxE S (.str "abcdefghijklmnopqrstuvwxyz") (.int (k : Int)) = some (.str ⟨#[97 + k]⟩) := fun {S} => by
      have := idx_let (S := S) (i := (k : Int)) (by omega) (by omega)
      rw [this]; simp
    have ck : 97 ≤ 97 + k ∧ 97 + k < 123 := by omega
    have hg : (S ++ [D.lst (someW.map .str)])[S.length]? = some (.lst (someW.map .str)) := by simp
    refine wp_then [some (.int k), some (.int x), some (.str "abcdefghijklmnopqrstuvwxyz"), none] S (fun Qn' q => by simp! only [wpB_nil]; exact q) ?_
    refine wp_then [some (.int k), some (.int x), some (.str "abcdefghijklmnopqrstuvwxyz"), some (.ref S.length)] (S ++ [.lst (someW.map .str)]) (fun Qn' q => by simp! only [wpB_nil]; exact q) ?_
    have b5 := fmod_bd (i := x) (j := 5) (by decide)
    by_cases h5 : x.fmod 5 = 0
    · refine wp_ifT (fun Q' X' q => by simp! only [h5]; exact q) ?_
      have b12 := fmod_bd (i := x.fdiv 5) (j := 12) (by decide)
      simp! only [idx_ref hg]
      refine wpO_atI b12.1 (by show (x.fdiv 5).fmod 12 < 12; exact b12.2) fun y hy => ?_
      obtain ⟨s, hs, rfl⟩ := List.mem_map.mp hy
      obtain ⟨s1, s2, s3⟩ := someW_ok s hs
      obtain ⟨m, hm, hm0, hm1⟩ : ∃ m : Int, (if decide ((x.fdiv 60).fmod 2 = 0) = true then (1 : Int) else 0) = m ∧ 0 ≤ m ∧ m ≤ 1 := ⟨_, rfl, by split <;> decide, by split <;> decide⟩
      simp! only [lk, hm, mul_str hm0 (by omega : m ≤ 1000)]
      have e1 : (⟨(List.replicate m.toNat (97 + k)).toArray⟩ : PySem.Str).length = m.toNat := by rw [TL.len_tl]; simp
      rw [add_str (by rw [e1]; omega)]
      simp! only [wpB_nil]
      rw [leave_pu0 hc rfl]
      refine ⟨_, ⟨?_, ?_, fun c m => ?_⟩, rfl, rfl⟩
      · rw [TL.len_tl, TL.tl_append, List.length_append, ← TL.len_tl]; omega
      · rw [TL.len_tl, TL.tl_append, List.length_append, ← TL.len_tl]
        simp; omega
      · rw [TL.tl_append] at m
        rcases List.mem_append.mp m with m | m
        · exact s3 c m
        · exact nm_rep ck c m
    · refine wp_ifF (fun Q' X' q => by simp! only [h5]; exact q) ?_
      rw [wpB_nil]
      have b26 := fmod_bd (i := x.fdiv 5) (j := 26) (by decide)
      have b7 := fmod_bd (i := x.fdiv 130) (j := 7) (by decide)
      have l2 : ∀ {S}, idxE S (.str "abcdefghijklmnopqrstuvwxyz") (.int ((x.fdiv 5).fmod 26)) = some (.str ⟨#[97 + ((x.fdiv 5).fmod 26).toNat]⟩) := fun {S} => idx_let b26.1 b26.2
      have c2 : 97 ≤ 97 + ((x.fdiv 5).fmod 26).toNat ∧ 97 + ((x.fdiv 5).fmod 26).toNat < 123 := by omega
      have e1 : (⟨(List.replicate ((x.fdiv 130).fmod 7).toNat (97 + ((x.fdiv 5).fmod 26).toNat)).toArray⟩ : PySem.Str).length = ((x.fdiv 130).fmod 7).toNat := by rw [TL.len_tl]; simp
      have e0 : (⟨#[97 + k]⟩ : PySem.Str).length = 1 := rfl
      have e2 : ((⟨#[97 + k]⟩ : PySem.Str) ++ ⟨(List.replicate ((x.fdiv 130).fmod 7).toNat (97 + ((x.fdiv 5).fmod 26).toNat)).toArray⟩).length = 1 + ((x.fdiv 130).fmod 7).toNat := by
        rw [TL.len_tl, TL.tl_append, List.length_append, ← TL.len_tl, ← TL.len_tl, e0, e1]
      have a1 : ∀ {S}, binE S .add (.str ⟨#[97 + k]⟩) (.str ⟨(List.replicate ((x.fdiv 130).fmod 7).toNat (97 + ((x.fdiv 5).fmod 26).toNat)).toArray⟩) = some (.str ((⟨#[97 + k]⟩ : PySem.Str) ++ ⟨(List.replicate ((x.fdiv 130).fmod 7).toNat (97 + ((x.fdiv 5).fmod 26).toNat)).toArray⟩)) := fun {S} => add_str (by rw [e0, e1]; omega)
      have a2 : ∀ {S}, binE S .add (.str ((⟨#[97 + k]⟩ : PySem.Str) ++ ⟨(List.replicate ((x.fdiv 130).fmod 7).toNat (97 + ((x.fdiv 5).fmod 26).toNat)).toArray⟩)) (.str ⟨#[97 + k]⟩) = some (.str ((⟨#[97 + k]⟩ : PySem.Str) ++ ⟨(List.replicate ((x.fdiv 130).fmod 7).toNat (97 + ((x.fdiv 5).fmod 26).toNat)).toArray⟩ ++ ⟨#[97 + k]⟩)) := fun {S} => add_str (by rw [e0, e2]; omega)
      simp! only [lk, l2, mul_str b7.1 (by omega : (x.fdiv 130).fmod 7 ≤ 1000), a1, a2]
      rw [leave_pu0 hc rfl]
      refine ⟨_, ⟨?_, ?_, fun c m => ?_⟩, rfl, rfl⟩
      · rw [TL.len_tl, TL.tl_append, List.length_append, ← TL.len_tl, ← TL.len_tl, e2, e0]; omega
      · rw [TL.len_tl, TL.tl_append, List.length_append, ← TL.len_tl, ← TL.len_tl, e2, e0]; omega
      · rw [TL.tl_append, TL.tl_append] at m
        rcases List.mem_append.mp m with m | m
        · rcases List.mem_append.mp m with m | m
          · have : c = 97 + k := by simpa using (show c ∈ [97 + k] from m)
            omega
          · exact nm_rep c2 c m
        · have : c = 97 + k := by simpa using (show c ∈ [97 + k] from m)
          omega
  obtain ⟨a, S', e, s, h1, rfl, rfl⟩ := wpR_out key
  exact ⟨s, h1, e⟩
theorem c__law_any_kind {x most : Int} (hm : most = 2 ∨ most = 3 ∨ most = 4) (hc : Cl S) : ∃ k : Kd, k.ok ∧ (most = 2 → k.place) ∧ (most ≤ 3 → k.tag ≠ "truth") ∧ F (n + 1) 19 [.int x, .int most] S = some (.ok k.d S) := by
  have key : wpR (fun a S' => ∃ k : Kd, k.ok ∧ (most = 2 → k.place) ∧ (most ≤ 3 → k.tag ≠ "truth") ∧ a = k.d ∧ S' = S) (fun _ _ => False) (F (n + 1) 19 [.int x, .int most] S) := by
    refine e__law_any_kind (by simp only [settle_int, settle_str, settle_bl, settle_non, settle_ref, settle_fz, settle_exc, settle_tup, settle_lst, settle_dct, settles_nil, settles_cons]; rfl) ?_
    unfold b__law_any_kind
    have b1 := fmod_bd (i := x.fdiv 4) (j := 101) (by decide)
    have b2 := fmod_bd (i := x.fdiv 404) (j := 17) (by decide)
    have b4 := fmod_bd (i := x.fdiv 4) (j := 4) (by decide)
    have bm := fmod_bd (i := x) (j := most) (by omega)
    have hmd : ∀ {S}, binE S .mod (.int x) (.int most) = some (.int (x.fmod most)) := mdl (by omega)
    simp! only [hmd, get_app, get_app0, set_app, set_app0, mutOf_r, listOf_r, dictOf_r, idx_r, idx_l, idx_f, idx_tup, mth_append, mth_pop, rcv_append, rcv_pop, rcv_extend, atI_0, atI_1, atI_2, atI_3, atI_4, add_rl, add_lr, add_ll, List.getElem?_cons_zero, List.getElem?_cons_succ]
    have h4 : x.fmod most = 0 ∨ x.fmod most = 1 ∨ x.fmod most = 2 ∨ x.fmod most = 3 := by omega
    have lv : ∀ k : Kd, wpR (fun a S' => a = k.d ∧ S' = S) (fun _ _ => False) (leave S.length k.d S) := fun k => by rw [leave_pure0 hc (kd_pure k)]; exact ⟨rfl, rfl⟩
    rcases h4 with e | e | e | e <;> rw [e]
    · refine wpR_mono (lv .fraction) (fun a S' h => ⟨.fraction, trivial, fun _ => trivial, fun _ => by decide, h.1, h.2⟩) fun _ _ z => z
    · refine wpR_mono (lv (.table (2 + (x.fdiv 4).fmod 4))) (fun a S' h => ⟨.table (2 + (x.fdiv 4).fmod 4), ⟨by omega, by omega⟩, fun _ => ⟨by omega, by omega⟩, fun _ => by show ("table" : PySem.Str) ≠ "truth"; decide, h.1, h.2⟩) fun _ _ z => z
    · refine wpR_mono (lv (.range ((x.fdiv 4).fmod 101 - 50) (if (x.fdiv 4).fmod 101 - 50 + (x.fdiv 404).fmod 17 < 50 then (x.fdiv 4).fmod 101 - 50 + (x.fdiv 404).fmod 17 else 50))) (fun a S' h => ⟨_, ?_, fun q => by omega, fun _ => by show ("range" : PySem.Str) ≠ "truth"; decide, h.1, h.2⟩) fun _ _ z => z
      refine ⟨by omega, by omega, ?_, ?_, ?_⟩ <;> split <;> omega
    · refine wpR_mono (lv .truth) (fun a S' h => ⟨.truth, trivial, fun q => by omega, fun q => by omega, h.1, h.2⟩) fun _ _ z => z
  obtain ⟨a, S', e, k, h1, h2, h3, rfl, rfl⟩ := wpR_out key
  exact ⟨k, h1, h2, h3, e⟩
end Pg
end
section
set_option Elab.async false
set_option linter.all false
set_option maxRecDepth 100000
set_option maxHeartbeats 8000000
namespace Pg
open Ev
local macro_rules
  | `(tactic| simp! only [$as,*] $[$l]?) => `(tactic| simp only [wpB_cons, wpB_nil, wpS_set, wpS_setT, wpS_par, wpS_setI, wpS_expr, wpS_ret, wpS_ife, wpS_raise, wpS_try, wpS_aug, wpE_var, wpE_cst, wpE_tup, wpE_lst, wpE_dct0, wpE_bin, wpE_neg, wpE_not, wpE_and, wpE_or, wpE_cmp, wpE_cmp2, wpE_is, wpE_ife, wpE_idx, wpE_sl, wpE_call, wpE_blt, wpE_mth, wpE_isi, wpEs_nil, wpEs_cons, wpR_ok, wpR_ex, wpO_some, wpO_map, wpT_true, wpT_false, wpT_not, wpIfs_nil, wpIfs_one, getV_0, getV_s, List.set_cons_succ, List.set_cons_zero, g0_F, g0_isa, truth_non, truth_bl, truth_int, truth_tup, truth_lst, truth_fz, Option.map_some, Option.isSome_some, if_true, Bool.false_eq_true, if_false, Bool.not_true, Bool.not_false, isPart, setTg, setNames, bin_add, bin_sub, cmp_lt, cmp_gt, cmp_le, cmp_ge, cmp_eq, orD_some, cmp_ne, eq_int, eq_str, abs_int, tuple_seq, list_seq, seqOf_tup, seqOf_lst, seqOf_fz, seqOf_ref, int_bl, mdl, fdl, min2, max2, pu_non, pu_bl, pu_int, pu_str, pu_nil, pu_cons, pure_tup, Bool.and_self, Int.reduceLT, and_true, true_and, decide_true, decide_false, isC_b_non, isC_n_bl, isC_n_int, isC_b_int, isC_n_str, isC_b_str, isC_n_tup, isC_b_tup, isC_n_lst, isC_b_lst, isC_n_fz, isC_b_fz, isC_n_dct, isC_b_dct, isC_n_ref, isC_b_ref, isC_n_exc, isC_b_exc, isC_n_non, isC_true_true_true, isC_true_true_false, isC_true_false_true, isC_true_false_false, isC_false_true_true, isC_false_true_false, isC_false_false_true, isC_false_false_false, isTys_nil, isTys_c, isTy_exv, isTy_exc, isTy_non_int, isTy_non_str, isTy_non_tuple, isTy_non_list, isTy_non_dict, isTy_non_bool, isTy_bl_int, isTy_bl_str, isTy_bl_tuple, isTy_bl_list, isTy_bl_dict, isTy_bl_bool, isTy_int_int, isTy_int_str, isTy_int_tuple, isTy_int_list, isTy_int_dict, isTy_int_bool, isTy_str_int, isTy_str_str, isTy_str_tuple, isTy_str_list, isTy_str_dict, isTy_str_bool, isTy_tup_int, isTy_tup_str, isTy_tup_tuple, isTy_tup_list, isTy_tup_dict, isTy_tup_bool, isTy_lst_int, isTy_lst_str, isTy_lst_tuple, isTy_lst_list, isTy_lst_dict, isTy_lst_bool, isTy_fz_int, isTy_fz_str, isTy_fz_tuple, isTy_fz_list, isTy_fz_dict, isTy_fz_bool, isTy_dct_int, isTy_dct_str, isTy_dct_tuple, isTy_dct_list, isTy_dct_dict, isTy_dct_bool, Option.bind_some, settle_int, settle_str, settle_bl, settle_non, settle_ref, settle_fz, settle_exc, settle_tup, settle_lst, settle_dct, settles_nil, settles_cons, $as,*] $[$l]?)
variable {n : Nat} {S : Sto}
theorem c__law_any_row {i : Nat} {xs : List Int} {nm : PySem.Str} (hnm : Nm nm) (hc : Cl S) (hS : S[i]? = some (.lst (xs.map .int))) :
    ∃ (r : Rw) (xs' : List Int), r.ok ∧ r.nm = nm ∧ F (n + 2) 20 [.str nm, .ref i] S = some (.ok r.d (S.set i (.lst (xs'.map .int)))) := by
  have key : wpR (fun t S' => ∃ (r : Rw) (xs' : List Int), r.ok ∧ r.nm = nm ∧ t = r.d ∧ S' = S.set i (.lst (xs'.map .int))) (fun _ _ => False) (F (n + 2) 20 [.str nm, .ref i] S) := by
    refine e__law_any_row (by simp only [settle_int, settle_str, settle_bl, settle_non, settle_ref, settle_fz, settle_exc, settle_tup, settle_lst, settle_dct, settles_nil, settles_cons]; rfl) ?_
    unfold b__law_any_row
    obtain ⟨x1, xs1, f1⟩ := c__law_take (n := n) hc hS
    have hc1 : Cl (S.set i (.lst (xs1.map .int))) := hc.ints xs1
    have hS1 : (S.set i (.lst (xs1.map .int)))[i]? = some (.lst (xs1.map .int)) := get_set hS
    obtain ⟨x2, xs2, f2⟩ := c__law_take (n := n) hc1 hS1
    rw [List.set_set] at f2
    have hc2 : Cl (S.set i (.lst (xs2.map .int))) := hc.ints xs2
    have hS2 : (S.set i (.lst (xs2.map .int)))[i]? = some (.lst (xs2.map .int)) := get_set hS
    refine wp_then [some (.str nm), some (.ref i), some (.int (x1.fmod 5)), none, none] (S.set i (.lst (xs1.map .int))) (fun Qn' q => by simp! only [f1]; exact q) ?_
    have b5 := fmod_bd (i := x1) (j := 5) (by decide)
    by_cases h3 : x1.fmod 5 < 3
    · refine wp_ifT (fun Q' X' q => by simp! only [h3]; exact q) ?_
      obtain ⟨k, k1, k2, k3, fk⟩ := c__law_any_kind (n := n) (x := x2) (most := 4) (.inr (.inr rfl)) hc2
      simp! only [f2, fk]
      have e := leave_si0 (i := i) (xs := xs2) hc (rw_pure (.unk nm k))
      exact wpR_eq e ⟨.unk nm k, xs2, ⟨hnm, k1⟩, rfl, rfl, rfl⟩
    · refine wp_ifF (fun Q' X' q => by simp! only [h3]; exact q) ?_
      rw [wpB_nil]
      have b2 := fmod_bd (i := x2) (j := 2) (by decide)
      rw [wpB_cons, wpS_set, wpE_blt, wpEs_cons]
      refine wp_comp (fun j vs S' => ∃ (ks : List Kd) (ys : List Int), vs = ks.map Kd.d ∧ ks.length = j ∧ (∀ q ∈ ks, q.place) ∧ S' = S.set i (.lst (ys.map .int))) ?_
      simp! only [f2]
      refine ⟨_, none, items_r1 (by omega) (by omega), rng_settled, ⟨[], xs2, rfl, rfl, (fun _ h => nomatch h), rfl⟩, fun _ _ _ _ => trivial, ?_, ?_⟩
      · rintro j y vs S' hd ⟨ks, ys, rfl, hl, hp, rfl⟩
        obtain ⟨x3, xs3, f3⟩ := c__law_take (n := n) (hc.ints ys) (get_set hS)
        rw [List.set_set] at f3
        obtain ⟨k, k1, k2, k3, fk⟩ := c__law_any_kind (n := n) (x := x3) (most := 2) (.inl rfl) (hc.ints (i := i) xs3)
        simp! only [f3, fk]
        refine ⟨ks ++ [k], xs3, by simp, by simp [hl], fun q m => ?_, rfl⟩
        rcases List.mem_append.mp m with m | m
        · exact hp q m
        · have : q = k := by simpa using m
          subst this; exact k2 rfl
      · rintro vs S' ⟨ks, ys, rfl, hl, hp, rfl⟩
        rw [rng_len] at hl
        simp only [wpEs_nil, tuple_seq, seqOf_lst, listOf_lst, Option.map_some, wpO_some, settle_pure _ _ (show (D.tup (ks.map Kd.d)).pure = true by rw [pure_tup]; exact kds_pure ks), List.set_cons_succ, List.set_cons_zero]
        obtain ⟨x4, xs4, f4⟩ := c__law_take (n := n) (hc.ints ys) (get_set hS)
        rw [List.set_set] at f4
        by_cases h4 : x1.fmod 5 = 3
        · refine wp_ifT (fun Q' X' q => by simp! only [h4]; exact q) ?_
          obtain ⟨k, k1, k2, k3, fk⟩ := c__law_any_kind (n := n) (x := x4) (most := 3) (.inr (.inl rfl)) (hc.ints (i := i) xs4)
          simp! only [f4, fk]
          have e := leave_si0 (i := i) (xs := xs4) hc (rw_pure (.fun_ nm ks k))
          exact wpR_eq e ⟨.fun_ nm ks k, xs4, ⟨hnm, ⟨by omega, by omega, hp⟩, k1, k3 (by decide)⟩, rfl, rfl, rfl⟩
        · refine wp_ifF (fun Q' X' q => by simp! only [h4]; exact q) ?_
          rw [wpB_nil]
          obtain ⟨k, k1, k2, k3, fk⟩ := c__law_any_kind (n := n) (x := x4) (most := 2) (.inl rfl) (hc.ints (i := i) xs4)
          cases ks with
          | nil => simp at hl; omega
          | cons k0 kr =>
            simp! only [get_app, get_app0, set_app, set_app0, mutOf_r, listOf_r, dictOf_r, idx_r, idx_l, idx_f, idx_tup, mth_append, mth_pop, rcv_append, rcv_pop, rcv_extend, atI_0, atI_1, atI_2, atI_3, atI_4, add_rl, add_lr, add_ll, List.getElem?_cons_zero, List.getElem?_cons_succ, List.map_cons, f4, fk]
            have e := leave_si0 (i := i) (xs := xs4) hc (rw_pure (.row nm k0 k))
            exact wpR_eq e ⟨.row nm k0 k, xs4, ⟨hnm, hp k0 (by simp), k2 rfl⟩, rfl, rfl, rfl⟩
  obtain ⟨a, S', e, r, xs', h1, h2, rfl, rfl⟩ := wpR_out key
  exact ⟨r, xs', h1, h2, e⟩
theorem in_names {x : PySem.Str} {K : List PySem.Str} {k : Nat} (hk : S[k]? = some (.lst (K.map .str))) : inE S (.str x) (.ref k) = some (decide (x ∈ K)) := by
  show (match Ev.seqOf S (.ref k) with | some ds => inL S (.str x) ds | none => _) = _
  rw [seqOf_ref, listOf_ref hk]
  exact in_strs (S := S) (x := x) (K := K)
theorem kd_depth (k : Kd) : k.d.depth ≤ 1 := by
  unfold Kd.d
  rw [D.depth]
  have : depths (D.str k.tag :: k.ints.map .int) ≤ 0 := depths_le _ fun d m => by
    rcases List.mem_cons.mp m with rfl | m
    · simp [D.depth]
    · obtain ⟨i, _, rfl⟩ := List.mem_map.mp m
      simp [D.depth]
  omega
theorem rw_depth (r : Rw) : r.d.depth ≤ 3 := by
  cases r with
  | unk nm k => have := kd_depth k; simp [Rw.d, D.depth, depths]; omega
  | fun_ nm ks k =>
    have := kd_depth k
    have h2 : depths (ks.map Kd.d) ≤ 1 := depths_le _ fun d m => by
      obtain ⟨q, _, rfl⟩ := List.mem_map.mp m
      exact kd_depth q
    simp [Rw.d, D.depth, depths]; omega
  | row nm a b => have := kd_depth a; have := kd_depth b; simp [Rw.d, D.depth, depths]; omega
theorem wd_depth (rs : List Rw) : (wd rs).depth ≤ 4 := by
  rw [D.depth]
  have : depths (rs.map Rw.d) ≤ 3 := depths_le _ fun d m => by
    obtain ⟨r, _, rfl⟩ := List.mem_map.mp m
    exact rw_depth r
  omega
theorem wT_one (r : Rw) : wT [r] = rT r := by
  unfold wT
  rw [List.map_cons, List.map_nil, TL.join_eq]
  rfl
end Pg
end
section
set_option Elab.async false
set_option linter.all false
set_option maxRecDepth 100000
set_option maxHeartbeats 8000000
namespace Pg
open Ev
local macro_rules
  | `(tactic| simp! only [$as,*] $[$l]?) => `(tactic| simp only [wpB_cons, wpB_nil, wpS_set, wpS_setT, wpS_par, wpS_setI, wpS_expr, wpS_ret, wpS_ife, wpS_raise, wpS_try, wpS_aug, wpE_var, wpE_cst, wpE_tup, wpE_lst, wpE_dct0, wpE_bin, wpE_neg, wpE_not, wpE_and, wpE_or, wpE_cmp, wpE_cmp2, wpE_is, wpE_ife, wpE_idx, wpE_sl, wpE_call, wpE_blt, wpE_mth, wpE_isi, wpEs_nil, wpEs_cons, wpR_ok, wpR_ex, wpO_some, wpO_map, wpT_true, wpT_false, wpT_not, wpIfs_nil, wpIfs_one, getV_0, getV_s, List.set_cons_succ, List.set_cons_zero, g0_F, g0_isa, truth_non, truth_bl, truth_int, truth_tup, truth_lst, truth_fz, Option.map_some, Option.isSome_some, if_true, Bool.false_eq_true, if_false, Bool.not_true, Bool.not_false, isPart, setTg, setNames, bin_add, bin_sub, cmp_lt, cmp_gt, cmp_le, cmp_ge, cmp_eq, orD_some, cmp_ne, eq_int, eq_str, abs_int, tuple_seq, list_seq, seqOf_tup, seqOf_lst, seqOf_fz, seqOf_ref, int_bl, mdl, fdl, min2, max2, pu_non, pu_bl, pu_int, pu_str, pu_nil, pu_cons, pure_tup, Bool.and_self, Int.reduceLT, and_true, true_and, decide_true, decide_false, isC_b_non, isC_n_bl, isC_n_int, isC_b_int, isC_n_str, isC_b_str, isC_n_tup, isC_b_tup, isC_n_lst, isC_b_lst, isC_n_fz, isC_b_fz, isC_n_dct, isC_b_dct, isC_n_ref, isC_b_ref, isC_n_exc, isC_b_exc, isC_n_non, isC_true_true_true, isC_true_true_false, isC_true_false_true, isC_true_false_false, isC_false_true_true, isC_false_true_false, isC_false_false_true, isC_false_false_false, isTys_nil, isTys_c, isTy_exv, isTy_exc, isTy_non_int, isTy_non_str, isTy_non_tuple, isTy_non_list, isTy_non_dict, isTy_non_bool, isTy_bl_int, isTy_bl_str, isTy_bl_tuple, isTy_bl_list, isTy_bl_dict, isTy_bl_bool, isTy_int_int, isTy_int_str, isTy_int_tuple, isTy_int_list, isTy_int_dict, isTy_int_bool, isTy_str_int, isTy_str_str, isTy_str_tuple, isTy_str_list, isTy_str_dict, isTy_str_bool, isTy_tup_int, isTy_tup_str, isTy_tup_tuple, isTy_tup_list, isTy_tup_dict, isTy_tup_bool, isTy_lst_int, isTy_lst_str, isTy_lst_tuple, isTy_lst_list, isTy_lst_dict, isTy_lst_bool, isTy_fz_int, isTy_fz_str, isTy_fz_tuple, isTy_fz_list, isTy_fz_dict, isTy_fz_bool, isTy_dct_int, isTy_dct_str, isTy_dct_tuple, isTy_dct_list, isTy_dct_dict, isTy_dct_bool, Option.bind_some, settle_int, settle_str, settle_bl, settle_non, settle_ref, settle_fz, settle_exc, settle_tup, settle_lst, settle_dct, settles_nil, settles_cons, $as,*] $[$l]?)
variable {n : Nat} {S : Sto}
/-! ### how a text is read, plainly -/
def outO (c : Nat) (o : Option D) (S : Sto) : Option (R D) := match o with
  | some d => some (.ok d S)
  | none => some (.ex c S)
theorem wpR_outO {m : Option (R D)} {c : Nat} {o : Option D} (h : wpR (fun d S' => o = some d ∧ S' = S) (fun c' S' => o = none ∧ c' = c ∧ S' = S) m) : m = outO c o S := by
  cases m with
  | none => exact h.elim
  | some r =>
    cases r with
    | ok d S' => obtain ⟨rfl, rfl⟩ := h; rfl
    | ex c' S' => obtain ⟨rfl, rfl, rfl⟩ := h; rfl
def cutS (x y : PySem.Str) : List PySem.Str := (TL.spl (TL.tl y) 0 [] (TL.tl x)).map fun l => ⟨l.toArray⟩
theorem spl_ne (T : List Nat) : ∀ (l : List Nat) (k : Nat) (acc : List Nat), TL.spl T k acc l ≠ []
  | [], k, acc => by cases k <;> simp [TL.spl]
  | c :: r, 0, acc => by
    unfold TL.spl
    split
    · simp
    · exact spl_ne T r 0 _
  | c :: r, k + 1, acc => by
    unfold TL.spl
    exact spl_ne T r k acc
theorem spl_bd (T : List Nat) : ∀ (l : List Nat) (k : Nat) (acc : List Nat), (∀ p ∈ TL.spl T k acc l, p.length ≤ acc.length + l.length) ∧ (TL.spl T k acc l).length ≤ l.length + 1
  | [], k, acc => by cases k <;> simp [TL.spl]
  | c :: r, 0, acc => by
    unfold TL.spl
    split
    · obtain ⟨h1, h2⟩ := spl_bd T r (T.length - 1) []
      refine ⟨fun p m => ?_, by simp; omega⟩
      rcases List.mem_cons.mp m with rfl | m
      · simp
      · have := h1 p m
        simp at this ⊢; omega
    · obtain ⟨h1, h2⟩ := spl_bd T r 0 (acc ++ [c])
      refine ⟨fun p m => ?_, by simp; omega⟩
      have := h1 p m
      simp at this ⊢; omega
  | c :: r, k + 1, acc => by
    unfold TL.spl
    obtain ⟨h1, h2⟩ := spl_bd T r k acc
    refine ⟨fun p m => ?_, by simp; omega⟩
    have := h1 p m
    simp; omega
theorem cut_bd (x y : PySem.Str) : (∀ p ∈ cutS x y, p.length ≤ x.length) ∧ (cutS x y).length ≤ x.length + 1 ∧ cutS x y ≠ [] := by
  obtain ⟨h1, h2⟩ := spl_bd (TL.tl y) (TL.tl x) 0 []
  refine ⟨fun p m => ?_, ?_, ?_⟩
  · obtain ⟨l, hl, rfl⟩ := List.mem_map.mp m
    have := h1 l hl
    rw [TL.len_tl, TL.len_tl]
    simp at this
    exact this
  · unfold cutS
    rw [List.length_map, TL.len_tl]; exact h2
  · unfold cutS
    intro e
    exact spl_ne _ _ _ _ (List.map_eq_nil_iff.mp e)
theorem split_cut {x y : PySem.Str} (hy : TL.tl y ≠ []) (hk : y.cps.all (· < 256) = true) : PySem.Txt.split x y = cutS x y := TL.map_tl_inj (by
  rw [TL.split_spl x y hy (TL.kind_ok hk)]
  unfold cutS
  rw [List.map_map]
  exact (List.map_id _).symm)
theorem cut_join {y : PySem.Str} {s : Nat} {T : List Nat} {ps : List PySem.Str} (ey : TL.tl y = s :: T) (hk : y.cps.all (· < 256) = true) (hne : ps ≠ []) (hp : ∀ p ∈ ps, s ∉ TL.tl p) : cutS (PySem.Txt.join y ps) y = ps := by
  rw [← split_cut (by rw [ey]; simp) hk, TL.split_join ey hk hne hp]
theorem split_run {x y : PySem.Str} (hy : TL.tl y ≠ []) (hk : y.cps.all (· < 256) = true) (hl : x.length + 2 ≤ 16777216) : mthE .split (.str x) [.str y] S = some (.lst ((cutS x y).map .str), S) := by
  have h0 : (y.length == 0) = false := by
    rw [TL.len_tl]
    cases h : TL.tl y with
    | nil => exact absurd h hy
    | cons a b => rfl
  show (if (y.length == 0) = false ∧ x.length + 2 ≤ 16777216 then some (D.lst ((PySem.Txt.split x y).map .str), S) else none) = _
  rw [if_pos ⟨h0, hl⟩, split_cut hy hk]
/-! ### ints -/
def isFig (c : Nat) : Bool := inStr ⟨#[c]⟩ "0123456789"
theorem fig_dig {c : Nat} (h : isFig c = true) : 48 ≤ c ∧ c ≤ 57 := by
  have e : isFig c = decide (c ∈ TL.tl ("0123456789" : PySem.Str)) := PySem.StrLaws.found_one _ c
  rw [e] at h
  have key : ∀ c ∈ TL.tl ("0123456789" : PySem.Str), 48 ≤ c ∧ c ≤ 57 := by decide +kernel
  exact key c (of_decide_eq_true h)
def figL (w : PySem.Str) : List Nat := if PySem.Txt.startswith w "-" then (TL.tl w).drop 1 else TL.tl w
def okI (w : PySem.Str) : Bool := decide (1 ≤ (figL w).length) && decide ((figL w).length ≤ 8) && (figL w).all isFig
def valI (w : PySem.Str) : Int := (PySem.intText? w).getD 0
theorem starts_minus {w : PySem.Str} (h : PySem.Txt.startswith w "-" = true) : ∃ cs, TL.tl w = 45 :: cs := by
  unfold PySem.Txt.startswith at h
  obtain ⟨_, h2⟩ := Bool.and_eq_true_iff.mp h
  rw [PySem.StrLaws.subAt_eq] at h2
  have e := eq_of_beq h2
  rw [List.drop_zero] at e
  have e2 : (TL.tl w).take 1 = [45] := e
  cases hw : TL.tl w with
  | nil => rw [hw] at e2; cases e2
  | cons c cs =>
    rw [hw] at e2
    have : c = 45 := by simpa using e2
    exact ⟨cs, by rw [this]⟩
theorem okI_val {w : PySem.Str} (h : okI w = true) : PySem.intText? w = some (valI w) ∧ w.length ≤ 9 := by
  unfold okI at h
  simp only [Bool.and_eq_true, decide_eq_true_eq, List.all_eq_true] at h
  obtain ⟨⟨h1, h2⟩, h3⟩ := h
  have hd : ∀ cs, figL w = cs → PySem.NumText.AllDigits cs ∧ cs ≠ [] := fun cs e => by
    subst e
    exact ⟨fun c m => fig_dig (h3 c m), fun z => by rw [z] at h1; simp at h1⟩
  have hw := TL.len_tl w
  have : (∃ n, PySem.intText? w = some n) ∧ w.length ≤ 9 := by
    by_cases hs : PySem.Txt.startswith w "-" = true
    · obtain ⟨cs, e⟩ := starts_minus hs
      have ef : figL w = cs := by unfold figL; rw [if_pos hs, e]; rfl
      obtain ⟨q1, q2⟩ := hd cs ef
      rw [ef] at h2
      have hl : w.length ≤ 9 := by rw [hw, e]; simp; exact h2
      exact ⟨⟨_, PySem.intText_neg e q1 q2 (by omega)⟩, hl⟩
    · have ef : figL w = TL.tl w := by unfold figL; rw [if_neg hs]
      obtain ⟨q1, q2⟩ := hd _ ef
      rw [ef] at h2
      exact ⟨⟨_, PySem.intText_digits q1 q2 (by omega)⟩, by omega⟩
  obtain ⟨⟨m, e⟩, hl⟩ := this
  exact ⟨by unfold valI; rw [e]; rfl, hl⟩
def intO (w : PySem.Str) : Option D := if okI w then some (.int (valI w)) else none
theorem c_int {w : PySem.Str} (hl : w.length ≤ 16777000) (hc : Cl S) : F (n + 1) 11 [.str w] S = outO 4 (intO w) S := by
  refine wpR_outO (e_int_in (by simp only [settle_int, settle_str, settle_bl, settle_non, settle_ref, settle_fz, settle_exc, settle_tup, settle_lst, settle_dct, settles_nil, settles_cons]; rfl) ?_)
  unfold b_int_in
  have hw := TL.len_tl w
  refine wp_split 2 (fun ρ Z => ρ = [some (.str w), some (.str ⟨(figL w).toArray⟩), none] ∧ Z = S) ?_ ?_
  · change wpB (g0 n) [_, .ife _ [_] []] _ _ _ _ _
    simp! only [rcv_starts, mth_starts]
    refine wpT_i (fun hs => ?_) fun hs => ?_
    · obtain ⟨cs, e⟩ := starts_minus hs
      simp! only [sl_str1 (x := w) (by omega) (by rw [hw, e]; simp)]
      unfold figL
      rw [if_pos hs]
    · simp! only [wpB_nil]
      unfold figL
      rw [if_neg (by rw [hs]; exact Bool.false_ne_true), TL.mk_tl]
  · rintro ρ Z ⟨rfl, rfl⟩
    change wpB (g0 n) [.ife _ [_] [], .for_ _ _ _ _, .ret _] _ _ _ _ _
    have hfl : (⟨(figL w).toArray⟩ : PySem.Str).length = (figL w).length := by rw [TL.len_tl]
    have hfw : (figL w).length ≤ w.length := by
      unfold figL
      split
      · rw [List.length_drop]; omega
      · omega
    have hlen : bltE Z .len [.str ⟨(figL w).toArray⟩] = some (.int (figL w).length) := by rw [len_str (by rw [hfl]; omega), hfl]
    have bad : okI w = false → intO w = none := fun h => by unfold intO; rw [h]; rfl
    by_cases a1 : ((figL w).length : Int) < 1
    · refine wp_ifT (fun Q' X' q => by simp! only [hlen, a1]; exact q) ?_
      simp! only [leave_int0 hc, leave_int hc, leave_bl0 hc, leave_bl hc, leave_str0 hc, leave_str hc, leave_non0 hc, leave_non hc, leave_tup0 hc, leave_tup hc, takeX hc, takeX0 hc]
      refine bad ?_
      have : ¬ 1 ≤ (figL w).length := by omega
      simp [okI, this]
    by_cases a2 : (8 : Int) < ((figL w).length : Int)
    · refine wp_ifT (fun Q' X' q => by simp! only [hlen, a1, a2]; exact q) ?_
      simp! only [leave_int0 hc, leave_int hc, leave_bl0 hc, leave_bl hc, leave_str0 hc, leave_str hc, leave_non0 hc, leave_non hc, leave_tup0 hc, leave_tup hc, takeX hc, takeX0 hc]
      refine bad ?_
      have : ¬ (figL w).length ≤ 8 := by omega
      simp [okI, this]
    refine wp_ifF (fun Q' X' q => by simp! only [hlen, a1, a2]; exact q) ?_
    rw [wpB_nil, wpB_cons]
    refine wp_for (fun k ρ S' => (∀ j, j < k → ∀ x, (figL w)[j]? = some x → isFig x = true) ∧ (∃ kv, ρ = [some (.str w), some (.str ⟨(figL w).toArray⟩), kv]) ∧ S' = Z) ?_
    simp! only [wpB_nil]
    refine ⟨_, none, items_str (by rw [hfl]; omega), ?_, ⟨by omega, ⟨_, rfl⟩, rfl⟩, fun _ _ _ _ => trivial, ?_, ?_⟩
    · rw [settleds_all, List.all_eq_true]
      intro x hx
      obtain ⟨c, _, rfl⟩ := List.mem_map.mp hx
      rfl
    · rintro k y ρ S' hd ⟨hk, ⟨kv, rfl⟩, rfl⟩
      rw [List.getElem?_map] at hd
      obtain ⟨c, hx1, rfl⟩ := Option.map_eq_some_iff.mp hd
      have hx1 : (figL w)[k]? = some c := hx1
      simp! only [cmp_nin, in_str]
      refine wpT_i (fun h4 => ?_) fun h4 => ?_
      · simp! only [wpB_nil]
        refine ⟨fun j hj y hy => ?_, ⟨_, rfl⟩⟩
        by_cases hjk : j = k
        · subst hjk; rw [hx1] at hy; cases hy; exact h4
        · exact hk j (by omega) y hy
      · simp! only [leave_int0 hc, leave_int hc, leave_bl0 hc, leave_bl hc, leave_str0 hc, leave_str hc, leave_non0 hc, leave_non hc, leave_tup0 hc, leave_tup hc, takeX hc, takeX0 hc]
        refine bad ?_
        have : (figL w).all isFig = false := by
          rw [List.all_eq_false]
          exact ⟨c, List.mem_of_getElem? hx1, by unfold isFig; rw [h4]; simp⟩
        simp [okI, this]
    · rintro ρ S' ⟨hk, ⟨kv, rfl⟩, rfl⟩
      have hall : (figL w).all isFig = true := by
        rw [List.all_eq_true]
        intro c m
        obtain ⟨j, hj⟩ := List.mem_iff_getElem?.mp m
        have := (List.getElem?_eq_some_iff.mp hj).1
        exact hk j (by simpa using this) c hj
      have hok : okI w = true := by
        unfold okI
        rw [hall, decide_eq_true (show 1 ≤ (figL w).length by omega), decide_eq_true (show (figL w).length ≤ 8 by omega)]; rfl
      obtain ⟨v1, v2⟩ := okI_val hok
      have hin : ∀ {S}, bltE S .int [.str w] = some (.int (valI w)) := fun {S} => by
        show (match PySem.intText? w with | some n => if w.length ≤ 640 then some (D.int n) else none | none => none) = _
        rw [v1]
        exact if_pos (by omega)
      simp! only [hin, leave_int0 hc, leave_int hc, leave_bl0 hc, leave_bl hc, leave_str0 hc, leave_str hc, leave_non0 hc, leave_non hc, leave_tup0 hc, leave_tup hc, takeX hc, takeX0 hc]
      unfold intO; rw [hok]; rfl
end Pg
end
section
set_option Elab.async false
set_option linter.all false
set_option maxRecDepth 100000
set_option maxHeartbeats 8000000
namespace Pg
open Ev
local macro_rules
  | `(tactic| simp! only [$as,*] $[$l]?) => `(tactic| simp only [wpB_cons, wpB_nil, wpS_set, wpS_setT, wpS_par, wpS_setI, wpS_expr, wpS_ret, wpS_ife, wpS_raise, wpS_try, wpS_aug, wpE_var, wpE_cst, wpE_tup, wpE_lst, wpE_dct0, wpE_bin, wpE_neg, wpE_not, wpE_and, wpE_or, wpE_cmp, wpE_cmp2, wpE_is, wpE_ife, wpE_idx, wpE_sl, wpE_call, wpE_blt, wpE_mth, wpE_isi, wpEs_nil, wpEs_cons, wpR_ok, wpR_ex, wpO_some, wpO_map, wpT_true, wpT_false, wpT_not, wpIfs_nil, wpIfs_one, getV_0, getV_s, List.set_cons_succ, List.set_cons_zero, g0_F, g0_isa, truth_non, truth_bl, truth_int, truth_tup, truth_lst, truth_fz, Option.map_some, Option.isSome_some, if_true, Bool.false_eq_true, if_false, Bool.not_true, Bool.not_false, isPart, setTg, setNames, bin_add, bin_sub, cmp_lt, cmp_gt, cmp_le, cmp_ge, cmp_eq, orD_some, cmp_ne, eq_int, eq_str, abs_int, tuple_seq, list_seq, seqOf_tup, seqOf_lst, seqOf_fz, seqOf_ref, int_bl, mdl, fdl, min2, max2, pu_non, pu_bl, pu_int, pu_str, pu_nil, pu_cons, pure_tup, Bool.and_self, Int.reduceLT, and_true, true_and, decide_true, decide_false, isC_b_non, isC_n_bl, isC_n_int, isC_b_int, isC_n_str, isC_b_str, isC_n_tup, isC_b_tup, isC_n_lst, isC_b_lst, isC_n_fz, isC_b_fz, isC_n_dct, isC_b_dct, isC_n_ref, isC_b_ref, isC_n_exc, isC_b_exc, isC_n_non, isC_true_true_true, isC_true_true_false, isC_true_false_true, isC_true_false_false, isC_false_true_true, isC_false_true_false, isC_false_false_true, isC_false_false_false, isTys_nil, isTys_c, isTy_exv, isTy_exc, isTy_non_int, isTy_non_str, isTy_non_tuple, isTy_non_list, isTy_non_dict, isTy_non_bool, isTy_bl_int, isTy_bl_str, isTy_bl_tuple, isTy_bl_list, isTy_bl_dict, isTy_bl_bool, isTy_int_int, isTy_int_str, isTy_int_tuple, isTy_int_list, isTy_int_dict, isTy_int_bool, isTy_str_int, isTy_str_str, isTy_str_tuple, isTy_str_list, isTy_str_dict, isTy_str_bool, isTy_tup_int, isTy_tup_str, isTy_tup_tuple, isTy_tup_list, isTy_tup_dict, isTy_tup_bool, isTy_lst_int, isTy_lst_str, isTy_lst_tuple, isTy_lst_list, isTy_lst_dict, isTy_lst_bool, isTy_fz_int, isTy_fz_str, isTy_fz_tuple, isTy_fz_list, isTy_fz_dict, isTy_fz_bool, isTy_dct_int, isTy_dct_str, isTy_dct_tuple, isTy_dct_list, isTy_dct_dict, isTy_dct_bool, Option.bind_some, settle_int, settle_str, settle_bl, settle_non, settle_ref, settle_fz, settle_exc, settle_tup, settle_lst, settle_dct, settles_nil, settles_cons, $as,*] $[$l]?)
variable {n : Nat} {S : Sto}
/-! ### kinds -/
def kindO (w : PySem.Str) : Option D := if ((cutS w ":").drop 1).all okI then some (.tup (((cutS w ":").take 1).map .str ++ ((cutS w ":").drop 1).map fun p => .int (valI p))) else none
theorem intsV_pure (f : PySem.Str → Int) (ps : List PySem.Str) : pures (ps.map fun p => D.int (f p)) = true := pures_of fun d hd => by
  obtain ⟨p, _, rfl⟩ := List.mem_map.mp hd
  rfl
theorem pures_app {a b : List D} (ha : pures a = true) (hb : pures b = true) : pures (a ++ b) = true := pures_of fun d hd => (List.mem_append.mp hd).elim (pures_mem ha) (pures_mem hb)
theorem kindO_pure {w : PySem.Str} {d : D} (h : kindO w = some d) : d.pure = true := by
  unfold kindO at h
  split at h
  · cases h
    rw [pure_tup]
    exact pures_app (strs_pure _) (intsV_pure _ _)
  · cases h
theorem c_kind {w : PySem.Str} (hl : w.length ≤ 16770000) (hc : Cl S) : F (n + 2) 12 [.str w] S = outO 4 (kindO w) S := by
  refine wpR_outO (e_kind_in (by simp only [settle_int, settle_str, settle_bl, settle_non, settle_ref, settle_fz, settle_exc, settle_tup, settle_lst, settle_dct, settles_nil, settles_cons]; rfl) ?_)
  unfold b_kind_in
  obtain ⟨b1, b2, b3⟩ := cut_bd w ":"
  have hsp : mthE .split (.str w) [.str ":"] S = some (.lst ((cutS w ":").map .str), S) := split_run (by decide +kernel) (by decide +kernel) (by omega)
  generalize hps : cutS w ":" = ps at *
  have hg : (S ++ [D.lst (ps.map .str)])[S.length]? = some (.lst (ps.map .str)) := by simp
  have hc1 : Cl (S ++ [D.lst (ps.map .str)]) := hc.lst (strs_pure _)
  have s1 : slE (S ++ [D.lst (ps.map .str)]) (.ref S.length) .non (.int 1) = some (.lst ((ps.take 1).map .str)) := by rw [sl_to (a := 1) hg (by decide)]; simp
  have s2 : slE (S ++ [D.lst (ps.map .str)]) (.ref S.length) (.int 1) .non = some (.lst ((ps.drop 1).map .str)) := by rw [sl_from (a := 1) hg (by decide)]; simp
  simp! only [rcv_split, hsp, settles_pure _ _ (strs_pure _), s1]
  refine wp_compX (fun j vs S' => vs = ((ps.drop 1).take j).map (fun p => .int (valI p)) ∧ ((ps.drop 1).take j).all okI = true ∧ S' = S ++ [D.lst (ps.map .str)]) ?_
  simp! only [s2]
  refine ⟨_, none, items_lst, pures_settled _ (strs_pure _), ⟨rfl, by first | rfl | trivial, rfl⟩, fun _ _ _ _ => trivial, ?_, ?_⟩
  · rintro j y vs S' hd ⟨rfl, hall, rfl⟩
    rw [List.getElem?_map] at hd
    obtain ⟨p, hp, rfl⟩ := Option.map_eq_some_iff.mp hd
    have hpl := b1 p (List.mem_of_mem_drop (List.mem_of_getElem? hp))
    have q := c_int (n := n) (w := p) (by omega) hc1
    unfold intO at q
    by_cases hk : okI p = true
    · rw [if_pos hk] at q
      have q' : F (n + 1) 11 [.str p] (S ++ [D.lst (ps.map .str)]) = some (.ok (.int (valI p)) (S ++ [D.lst (ps.map .str)])) := q
      simp! only [q']
      rw [take_at hp]
      exact ⟨by simp, by rw [List.all_append, hall]; simp [hk]⟩
    · rw [if_neg hk] at q
      have q' : F (n + 1) 11 [.str p] (S ++ [D.lst (ps.map .str)]) = some (.ex 4 (S ++ [D.lst (ps.map .str)])) := q
      simp! only [q', leave_int0 hc, leave_int hc, leave_bl0 hc, leave_bl hc, leave_str0 hc, leave_str hc, leave_non0 hc, leave_non hc, leave_tup0 hc, leave_tup hc, takeX hc, takeX0 hc]
      unfold kindO
      rw [hps, if_neg]
      intro z
      exact hk (List.all_eq_true.mp z p (List.mem_of_getElem? hp))
  · rintro vs S' ⟨rfl, hall, rfl⟩
    rw [List.length_map, List.take_length] at hall ⊢
    have hadd : ∀ {S}, binE S .add (.lst ((ps.take 1).map .str)) (.lst ((ps.drop 1).map fun p => .int (valI p))) = some (.lst ((ps.take 1).map .str ++ (ps.drop 1).map fun p => .int (valI p))) := fun {S} => add_l (by simp; omega)
    have hp : (D.tup ((ps.take 1).map .str ++ (ps.drop 1).map fun p => .int (valI p))).pure = true := by
      rw [pure_tup]; exact pures_app (strs_pure _) (intsV_pure _ _)
    simp! only [hadd]
    rw [leave_pu0 hc hp]
    exact ⟨by unfold kindO; rw [hps, if_pos hall], rfl⟩
/-! ### declarations -/
def declO (t : PySem.Str) : Option D := match ((cutS t " ").drop 2).mapM kindO with
  | none => none
  | some ks => if (cutS t " ").headD "" = "function" then (if ks.length < 2 then none else some (.tup [.str "function", .str ((cutS t " ").getD 1 ""), .tup ks.dropLast, ks.getLastD .non])) else some (.tup (((cutS t " ").take 2).map .str ++ ks))
theorem mapM_c {α β : Type} {f : α → Option β} {x : α} {xs : List α} {ys : List β} (h : (x :: xs).mapM f = some ys) : ∃ y r, f x = some y ∧ xs.mapM f = some r ∧ ys = y :: r := by
  rw [List.mapM_cons] at h
  cases h1 : f x with
  | none => rw [h1] at h; cases h
  | some y =>
    cases h2 : xs.mapM f with
    | none => rw [h1, h2] at h; cases h
    | some r => rw [h1, h2] at h; cases h; exact ⟨y, r, rfl, rfl, rfl⟩
theorem mapM_len {α β : Type} {f : α → Option β} : ∀ {l : List α} {r : List β}, l.mapM f = some r → r.length = l.length
  | [], r, h => by
    have : r = [] := by simpa using h.symm
    subst this; rfl
  | x :: l, r, h => by
    obtain ⟨y, ys, e1, e2, rfl⟩ := mapM_c h
    rw [List.length_cons, List.length_cons, mapM_len e2]
theorem mapM_mem {α β : Type} {f : α → Option β} : ∀ {l : List α} {r : List β}, l.mapM f = some r → ∀ y ∈ r, ∃ x ∈ l, f x = some y
  | [], r, h, y, m => by
    have : r = [] := by simpa using h.symm
    subst this; cases m
  | x :: l, r, h, y, m => by
    obtain ⟨z, zs, e1, e2, rfl⟩ := mapM_c h
    rcases List.mem_cons.mp m with rfl | m
    · exact ⟨x, List.mem_cons_self, e1⟩
    · obtain ⟨w, hw, e⟩ := mapM_mem e2 y m
      exact ⟨w, List.mem_cons_of_mem _ hw, e⟩
theorem mapM_none {α β : Type} {f : α → Option β} : ∀ {l : List α} {x : α}, x ∈ l → f x = none → l.mapM f = none
  | y :: l, x, m, h => by
    rw [List.mapM_cons]
    rcases List.mem_cons.mp m with rfl | m
    · rw [h]; rfl
    · cases f y with
      | none => rfl
      | some z => rw [mapM_none m h]; rfl
theorem mapM_snoc {α β : Type} {f : α → Option β} : ∀ {l : List α} {r : List β} {x : α} {y : β}, l.mapM f = some r → f x = some y → (l ++ [x]).mapM f = some (r ++ [y])
  | [], r, x, y, h1, h2 => by
    have : r = [] := by simpa using h1.symm
    subst this
    simp [h2]
  | z :: l, r, x, y, h1, h2 => by
    obtain ⟨w, ws, e1, e2, rfl⟩ := mapM_c h1
    rw [List.cons_append, List.mapM_cons, e1, mapM_snoc e2 h2]; rfl
theorem kindsO_pure {ws : List PySem.Str} {ks : List D} (h : ws.mapM kindO = some ks) : pures ks = true := pures_of fun d hd => by
  obtain ⟨w, _, e⟩ := mapM_mem h d hd
  exact kindO_pure e
theorem declO_pure {t : PySem.Str} {d : D} (h : declO t = some d) : d.pure = true := by
  unfold declO at h
  split at h
  · cases h
  · rename_i ks hk
    have hp := kindsO_pure hk
    split at h
    · split at h
      · cases h
      · rename_i h2
        cases h
        rw [pure_tup]
        have hl : ks ≠ [] := fun e => by rw [e] at h2; simp at h2
        have h3 : pures ks.dropLast = true := pures_of fun d m => pures_mem hp ((List.dropLast_sublist ks).subset m)
        have h4 : (ks.getLastD .non).pure = true := by
          rw [List.getLastD_eq_getLast?, List.getLast?_eq_some_getLast hl]
          exact pures_mem hp (List.getLast_mem hl)
        simp only [pu_cons, pu_str, pure_tup, h3, h4, pu_nil, Bool.and_self]
    · cases h
      rw [pure_tup]
      exact pures_app (strs_pure _) hp
end Pg
end
section
set_option Elab.async false
set_option linter.all false
set_option maxRecDepth 100000
set_option maxHeartbeats 8000000
namespace Pg
open Ev
variable {n : Nat} {S : Sto}
/-! ### what is a declaration is a row -/
theorem int_of {d : D} {lo hi : Int} (h : isInt d lo hi = true) : ∃ i, d = .int i ∧ lo ≤ i ∧ i ≤ hi := by
  cases d with
  | int i =>
    have h' : (decide (lo ≤ i) && decide (i ≤ hi)) = true := h
    simp only [Bool.and_eq_true, decide_eq_true_eq] at h'
    exact ⟨i, rfl, h'⟩
  | _ => cases h
theorem place_of {d : D} (h : isPlace d = true) : ∃ k : Kd, k.place ∧ d = k.d := by
  unfold isPlace at h
  split at h
  · rename_i ht
    obtain ⟨ds, rfl, hl⟩ := tg_at ht
    match ds, hl with
    | [x], _ =>
      obtain ⟨i, e, h1, h2⟩ := int_of (show isInt x 2 5 = true from h)
      subst e
      exact ⟨.table i, ⟨h1, h2⟩, rfl⟩
  · obtain ⟨ds, rfl, hl⟩ := tg_at h
    match ds, hl with
    | [], _ => exact ⟨.fraction, trivial, rfl⟩
theorem range_of {d : D} (h : isRange d = true) : ∃ a b, (Kd.range a b).ok ∧ d = (Kd.range a b).d := by
  unfold isRange at h
  obtain ⟨h1, h2⟩ := Bool.and_eq_true_iff.mp h
  obtain ⟨h0, h1⟩ := Bool.and_eq_true_iff.mp h1
  obtain ⟨ds, rfl, hl⟩ := tg_at h0
  match ds, hl with
  | [x, y], _ =>
    obtain ⟨a, e, a1, a2⟩ := int_of (show isInt x (-50) 50 = true from h1)
    subst e
    obtain ⟨b, e, b1, b2⟩ := int_of (show isInt y a (if a + 16 < 50 then a + 16 else 50) = true from h2)
    subst e
    refine ⟨a, b, ⟨a1, a2, b1, ?_, ?_⟩, rfl⟩ <;> (split at b2 <;> omega)
theorem let_bd {c : Nat} (h : isLet c = true) : 97 ≤ c ∧ c < 123 := by
  have e : isLet c = decide (c ∈ TL.tl ("abcdefghijklmnopqrstuvwxyz" : PySem.Str)) := PySem.StrLaws.found_one _ c
  rw [e] at h
  have key : ∀ c ∈ TL.tl ("abcdefghijklmnopqrstuvwxyz" : PySem.Str), 97 ≤ c ∧ c < 123 := by decide +kernel
  exact key c (of_decide_eq_true h)
theorem name_of {d : D} (h : isName d = true) : ∃ s, d = .str s ∧ Nm s := by
  cases d with
  | str s =>
    have h' : isNm s = true := h
    unfold isNm at h'
    simp only [Bool.and_eq_true, decide_eq_true_eq, List.all_eq_true] at h'
    exact ⟨s, rfl, h'.1.1, h'.1.2, fun c m => let_bd (h'.2 c m)⟩
  | _ => cases h
theorem decl_rw {d : D} (h : isDecl d = true) : ∃ r : Rw, r.ok ∧ d = r.d := by
  unfold isDecl at h
  obtain ⟨h1, h2⟩ := Bool.and_eq_true_iff.mp h
  unfold isKnown at h1
  split at h1
  · rename_i ht
    obtain ⟨ds, rfl, hl⟩ := tg_at ht
    match ds, hl with
    | [x, y], _ =>
      obtain ⟨s, e, hn⟩ := name_of (show isName x = true from h2)
      subst e
      have h1 : (isPlace y || (isRange y || isTg y "truth" 1)) = true := h1
      rcases Bool.or_eq_true_iff.mp h1 with q | q
      · obtain ⟨k, k1, rfl⟩ := place_of q
        exact ⟨.unk s k, ⟨hn, k1.ok⟩, rfl⟩
      · rcases Bool.or_eq_true_iff.mp q with q | q
        · obtain ⟨a, b, k1, rfl⟩ := range_of q
          exact ⟨.unk s (.range a b), ⟨hn, k1⟩, rfl⟩
        · obtain ⟨es, rfl, hl⟩ := tg_at q
          match es, hl with
          | [], _ => exact ⟨.unk s .truth, ⟨hn, trivial⟩, rfl⟩
  · split at h1
    · rename_i ht
      obtain ⟨ds, rfl, hl⟩ := tg_at ht
      match ds, hl with
      | [x, y, z], _ =>
        obtain ⟨s, e, hn⟩ := name_of (show isName x = true from h2)
        subst e
        obtain ⟨q1, q2⟩ := Bool.and_eq_true_iff.mp (show (arePl y && (isPlace z || isRange z)) = true from h1)
        have hz : ∃ k : Kd, k.ok ∧ k.tag ≠ "truth" ∧ z = k.d := by
          rcases Bool.or_eq_true_iff.mp q2 with q | q
          · obtain ⟨k, k1, rfl⟩ := place_of q
            refine ⟨k, k1.ok, ?_, rfl⟩
            cases k with
            | fraction => decide
            | table _ => show ("table" : PySem.Str) ≠ "truth"; decide
            | _ => exact k1.elim
          · obtain ⟨a, b, k1, rfl⟩ := range_of q
            exact ⟨.range a b, k1, by show ("range" : PySem.Str) ≠ "truth"; decide, rfl⟩
        obtain ⟨k, k1, k2, rfl⟩ := hz
        have hy : ∃ ks : List Kd, (1 ≤ ks.length ∧ ks.length ≤ 2 ∧ ∀ q ∈ ks, q.place) ∧ y = .tup (ks.map Kd.d) := by
          cases y with
          | tup ys =>
            have q1 : ((decide (ys.length = 1) || decide (ys.length = 2)) && ys.all isPlace) = true := q1
            obtain ⟨l1, l2⟩ := Bool.and_eq_true_iff.mp q1
            simp only [Bool.or_eq_true, decide_eq_true_eq] at l1
            have l2 := List.all_eq_true.mp l2
            rcases l1 with l1 | l1
            · match ys, l1 with
              | [a], _ =>
                obtain ⟨ka, a1, rfl⟩ := place_of (l2 a (by simp))
                exact ⟨[ka], ⟨by simp, by simp, by simpa using a1⟩, rfl⟩
            · match ys, l1 with
              | [a, b], _ =>
                obtain ⟨ka, a1, rfl⟩ := place_of (l2 a (by simp))
                obtain ⟨kb, b1, rfl⟩ := place_of (l2 b (by simp))
                refine ⟨[ka, kb], ⟨by simp, by simp, fun q m => ?_⟩, rfl⟩
                rcases List.mem_cons.mp m with rfl | m
                · exact a1
                · have : q = kb := by simpa using m
                  subst this; exact b1
          | _ => cases q1
        obtain ⟨ks, hks, rfl⟩ := hy
        exact ⟨.fun_ s ks k, ⟨hn, hks, k1, k2⟩, rfl⟩
    · obtain ⟨ht, h1⟩ := Bool.and_eq_true_iff.mp h1
      obtain ⟨ds, rfl, hl⟩ := tg_at ht
      match ds, hl with
      | [x, y, z], _ =>
        obtain ⟨s, e, hn⟩ := name_of (show isName x = true from h2)
        subst e
        obtain ⟨q1, q2⟩ := Bool.and_eq_true_iff.mp (show (isPlace y && isPlace z) = true from h1)
        obtain ⟨a, a1, rfl⟩ := place_of q1
        obtain ⟨b, b1, rfl⟩ := place_of q2
        exact ⟨.row s a b, ⟨hn, a1, b1⟩, rfl⟩
theorem good_rws : ∀ {K : List PySem.Str} {ds : List D}, goodW K ds = true → ∃ rs : List Rw, ds = rs.map Rw.d ∧ (∀ r ∈ rs, r.ok) ∧ (rs.map Rw.nm).Nodup ∧ ∀ r ∈ rs, r.nm ∉ K
  | K, [], _ => ⟨[], rfl, (fun _ h => nomatch h), List.nodup_nil, (fun _ h => nomatch h)⟩
  | K, d :: ds, h => by
    obtain ⟨h1, h2⟩ := Bool.and_eq_true_iff.mp (show (isDecl d && (decide (nmOf d ∉ K) && goodW (K ++ [nmOf d]) ds)) = true from h)
    obtain ⟨h4, h3⟩ := Bool.and_eq_true_iff.mp h2
    obtain ⟨r, r1, rfl⟩ := decl_rw h1
    obtain ⟨rs, rfl, e1, e2, e3⟩ := good_rws h3
    have hn : r.nm ∉ K := by have := of_decide_eq_true h4; rwa [nm_of] at this
    refine ⟨r :: rs, rfl, fun q m => ?_, ?_, fun q m => ?_⟩
    · rcases List.mem_cons.mp m with rfl | m
      · exact r1
      · exact e1 q m
    · rw [List.map_cons, List.nodup_cons]
      refine ⟨fun m => ?_, e2⟩
      obtain ⟨q, hq, e⟩ := List.mem_map.mp m
      refine e3 q hq (List.mem_append_right _ ?_)
      rw [nm_of, ← e]; simp
    · rcases List.mem_cons.mp m with rfl | m
      · exact hn
      · exact fun z => e3 q m (List.mem_append_left _ z)
end Pg
end
section
set_option Elab.async false
set_option linter.all false
set_option maxRecDepth 100000
set_option maxHeartbeats 8000000
namespace Pg
open Ev
local macro_rules
  | `(tactic| simp! only [$as,*] $[$l]?) => `(tactic| simp only [wpB_cons, wpB_nil, wpS_set, wpS_setT, wpS_par, wpS_setI, wpS_expr, wpS_ret, wpS_ife, wpS_raise, wpS_try, wpS_aug, wpE_var, wpE_cst, wpE_tup, wpE_lst, wpE_dct0, wpE_bin, wpE_neg, wpE_not, wpE_and, wpE_or, wpE_cmp, wpE_cmp2, wpE_is, wpE_ife, wpE_idx, wpE_sl, wpE_call, wpE_blt, wpE_mth, wpE_isi, wpEs_nil, wpEs_cons, wpR_ok, wpR_ex, wpO_some, wpO_map, wpT_true, wpT_false, wpT_not, wpIfs_nil, wpIfs_one, getV_0, getV_s, List.set_cons_succ, List.set_cons_zero, g0_F, g0_isa, truth_non, truth_bl, truth_int, truth_tup, truth_lst, truth_fz, Option.map_some, Option.isSome_some, if_true, Bool.false_eq_true, if_false, Bool.not_true, Bool.not_false, isPart, setTg, setNames, bin_add, bin_sub, cmp_lt, cmp_gt, cmp_le, cmp_ge, cmp_eq, orD_some, cmp_ne, eq_int, eq_str, abs_int, tuple_seq, list_seq, seqOf_tup, seqOf_lst, seqOf_fz, seqOf_ref, int_bl, mdl, fdl, min2, max2, pu_non, pu_bl, pu_int, pu_str, pu_nil, pu_cons, pure_tup, Bool.and_self, Int.reduceLT, and_true, true_and, decide_true, decide_false, isC_b_non, isC_n_bl, isC_n_int, isC_b_int, isC_n_str, isC_b_str, isC_n_tup, isC_b_tup, isC_n_lst, isC_b_lst, isC_n_fz, isC_b_fz, isC_n_dct, isC_b_dct, isC_n_ref, isC_b_ref, isC_n_exc, isC_b_exc, isC_n_non, isC_true_true_true, isC_true_true_false, isC_true_false_true, isC_true_false_false, isC_false_true_true, isC_false_true_false, isC_false_false_true, isC_false_false_false, isTys_nil, isTys_c, isTy_exv, isTy_exc, isTy_non_int, isTy_non_str, isTy_non_tuple, isTy_non_list, isTy_non_dict, isTy_non_bool, isTy_bl_int, isTy_bl_str, isTy_bl_tuple, isTy_bl_list, isTy_bl_dict, isTy_bl_bool, isTy_int_int, isTy_int_str, isTy_int_tuple, isTy_int_list, isTy_int_dict, isTy_int_bool, isTy_str_int, isTy_str_str, isTy_str_tuple, isTy_str_list, isTy_str_dict, isTy_str_bool, isTy_tup_int, isTy_tup_str, isTy_tup_tuple, isTy_tup_list, isTy_tup_dict, isTy_tup_bool, isTy_lst_int, isTy_lst_str, isTy_lst_tuple, isTy_lst_list, isTy_lst_dict, isTy_lst_bool, isTy_fz_int, isTy_fz_str, isTy_fz_tuple, isTy_fz_list, isTy_fz_dict, isTy_fz_bool, isTy_dct_int, isTy_dct_str, isTy_dct_tuple, isTy_dct_list, isTy_dct_dict, isTy_dct_bool, Option.bind_some, settle_int, settle_str, settle_bl, settle_non, settle_ref, settle_fz, settle_exc, settle_tup, settle_lst, settle_dct, settles_nil, settles_cons, $as,*] $[$l]?)
variable {n : Nat} {S : Sto}
theorem c_decl {t : PySem.Str} (hl : t.length ≤ 16760000) (hc : Cl S) : F (n + 3) 13 [.str t] S = outO 4 (declO t) S := by
  refine wpR_outO (e_declaration_in (by simp only [settle_int, settle_str, settle_bl, settle_non, settle_ref, settle_fz, settle_exc, settle_tup, settle_lst, settle_dct, settles_nil, settles_cons]; rfl) ?_)
  unfold b_declaration_in
  obtain ⟨b1, b2, b3⟩ := cut_bd t " "
  have hsp : mthE .split (.str t) [.str " "] S = some (.lst ((cutS t " ").map .str), S) := split_run (by decide +kernel) (by decide +kernel) (by omega)
  have hD : declO t = match ((cutS t " ").drop 2).mapM kindO with
    | none => none
    | some ks => if (cutS t " ").headD "" = "function" then (if ks.length < 2 then none else some (.tup [.str "function", .str ((cutS t " ").getD 1 ""), .tup ks.dropLast, ks.getLastD .non])) else some (.tup (((cutS t " ").take 2).map .str ++ ks)) := rfl
  generalize hws : cutS t " " = ws at *
  have hc1 : Cl (S ++ [D.lst (ws.map .str)]) := hc.lst (strs_pure _)
  have hg1 : (S ++ [D.lst (ws.map .str)])[S.length]? = some (.lst (ws.map .str)) := by simp
  refine wp_then [some (.str t), some (.ref S.length), none, none] (S ++ [.lst (ws.map .str)]) (fun Qn' q => by simp! only [rcv_split, hsp, settles_pure _ _ (strs_pure _)]; exact q) ?_
  have s2 : slE (S ++ [D.lst (ws.map .str)]) (.ref S.length) (.int 2) .non = some (.lst ((ws.drop 2).map .str)) := by rw [sl_from (a := 2) hg1 (by decide)]; simp
  rw [wpB_cons, wpS_set]
  refine wp_compX (fun j vs S' => ((ws.drop 2).take j).mapM kindO = some vs ∧ S' = S ++ [D.lst (ws.map .str)]) ?_
  simp! only [s2]
  refine ⟨_, none, items_lst, pures_settled _ (strs_pure _), ⟨rfl, by first | rfl | trivial⟩, fun _ _ _ _ => trivial, ?_, ?_⟩
  · rintro j y vs S' hd ⟨hvs, rfl⟩
    rw [List.getElem?_map] at hd
    obtain ⟨p, hp, rfl⟩ := Option.map_eq_some_iff.mp hd
    have hm := List.mem_of_getElem? hp
    have hpl := b1 p (List.mem_of_mem_drop hm)
    have q := c_kind (n := n) (w := p) (by omega) hc1
    cases hk : kindO p with
    | some d =>
      rw [hk] at q
      have q' : F (n + 2) 12 [.str p] (S ++ [D.lst (ws.map .str)]) = some (.ok d (S ++ [D.lst (ws.map .str)])) := q
      simp! only [q']
      rw [take_at hp]
      exact mapM_snoc hvs hk
    | none =>
      rw [hk] at q
      have q' : F (n + 2) 12 [.str p] (S ++ [D.lst (ws.map .str)]) = some (.ex 4 (S ++ [D.lst (ws.map .str)])) := q
      simp! only [q', leave_int0 hc, leave_int hc, leave_bl0 hc, leave_bl hc, leave_str0 hc, leave_str hc, leave_non0 hc, leave_non hc, leave_tup0 hc, leave_tup hc, takeX hc, takeX0 hc]
      rw [hD, mapM_none hm hk]
  · rintro ks S' ⟨hks, rfl⟩
    rw [List.length_map, List.take_length] at hks
    simp only [hks] at hD
    have hkp := kindsO_pure hks
    have hkl := mapM_len hks
    rw [List.length_drop] at hkl
    simp only [settle_lst, settles_pure _ _ hkp, List.set_cons_succ, List.set_cons_zero]
    have hg2 : (S ++ [D.lst (ws.map .str)] ++ [D.lst ks])[S.length]? = some (.lst (ws.map .str)) := get_b hg1
    have hg3 : (S ++ [D.lst (ws.map .str)] ++ [D.lst ks])[(S ++ [D.lst (ws.map .str)]).length]? = some (.lst ks) := by rw [get_app0]; rfl
    have i0 : idxE (S ++ [D.lst (ws.map .str)] ++ [D.lst ks]) (.ref S.length) (.int 0) = some (.str (ws.headD "")) := by
      rw [idx_ref hg2]
      cases ws with
      | nil => exact absurd rfl b3
      | cons a b => rfl
    have s1 : slE (S ++ [D.lst (ws.map .str)] ++ [D.lst ks]) (.ref S.length) .non (.int 2) = some (.lst ((ws.take 2).map .str)) := by rw [sl_to (a := 2) hg2 (by decide)]; simp
    have ad := add_lr' (a := (ws.take 2).map .str) hg3 (by simp; omega)
    have ln := len_ref hg3
    have i1 : 2 ≤ ks.length → idxE (S ++ [D.lst (ws.map .str)] ++ [D.lst ks]) (.ref S.length) (.int 1) = some (.str (ws.getD 1 "")) := fun h => by
      rw [idx_ref hg2]
      match ws, hkl with
      | a :: b :: c, _ => rfl
      | [], h' => have e' : ks.length = 0 := h'; omega
      | [a], h' => have e' : ks.length = 0 := h'; omega
    generalize (S ++ [D.lst (ws.map .str)]).length = j at hg3 ad ln ⊢
    generalize hZ : S ++ [D.lst (ws.map .str)] ++ [D.lst ks] = Z at hg2 hg3 i0 s1 ad ln i1 ⊢
    have lv : ∀ d : D, d.pure = true → leave S.length d Z = some (.ok d S) := fun d hd => by rw [← hZ, List.append_assoc]; exact leave_pu0 hc hd
    have lx : (if closed S.length Z = true then Z.take S.length else Z) = S := by rw [← hZ, List.append_assoc]; exact takeX hc
    by_cases hf : ws.headD "" = "function"
    · rw [if_pos hf] at hD
      refine wp_ifF (fun Q' X' q => by simp! only [i0, hf]; exact q) ?_
      rw [wpB_nil]
      by_cases h2 : ks.length < 2
      · rw [if_pos h2] at hD
        have h2' : (ks.length : Int) < 2 := by omega
        refine wp_ifT (fun Q' X' q => by simp! only [ln, h2']; exact q) ?_
        simp! only [lx]
        exact hD
      · rw [if_neg h2] at hD
        have h2' : ¬ (ks.length : Int) < 2 := by omega
        refine wp_ifF (fun Q' X' q => by simp! only [ln, h2']; exact q) ?_
        rw [wpB_nil]
        have hne : ks ≠ [] := fun e => by rw [e] at h2; simp at h2
        have hg4 : Z[j]? = some (.lst (ks.dropLast ++ [ks.getLastD .non])) := by
          rw [hg3, List.getLastD_eq_getLast?, List.getLast?_eq_some_getLast hne]
          rw [Option.getD_some, List.dropLast_concat_getLast hne]
        simp! only [i1 (by omega), neg_int, sl_neg1 hg4, ix_neg1 hg4]
        exact wpR_eq (lv _ (declO_pure hD)) ⟨hD, rfl⟩
    · rw [if_neg hf] at hD
      refine wp_ifT (fun Q' X' q => by simp! only [i0, hf]; exact q) ?_
      simp! only [s1, ad]
      exact wpR_eq (lv _ (declO_pure hD)) ⟨hD, rfl⟩
theorem c_made {its : List D} (hp : pures its = true) (hs : ∀ x ∈ its, ∀ s, att x 1 = .str s → s.length ≤ 16777216) (hc : Cl S) :
    F (n + 5) 7 [.lst its] S = outO 1 (if (decide (its.length ≤ 24) && goodW [] its) = true then some (.tup its) else none) S := by
  refine wpR_outO (e_made_world (by simp only [settle_int, settle_str, settle_bl, settle_non, settle_ref, settle_fz, settle_exc, settle_tup, settle_lst, settle_dct, settles_nil, settles_cons, settles_pure _ _ hp]; rfl) ?_)
  have hc1 : Cl (S ++ [.lst its]) := hc.lst hp
  have hit : Its (S ++ [.lst its]) (.ref S.length) its := .inr ⟨_, rfl, by simp⟩
  have mb := made_body (n := n) hit (fun x m => .inl (.inl (pures_mem hp m))) hs hc1
  refine wpB_mono mb (fun _ _ z => z.elim) (fun d S' h => ?_) fun c S' h => ?_
  · obtain ⟨hg, rfl, l, rfl⟩ := h
    rw [List.append_assoc, leave_pu0 hc (by rw [pure_tup]; exact hp)]
    exact ⟨by rw [if_pos hg], rfl⟩
  · obtain ⟨hg, rfl, l, rfl⟩ := h
    rw [List.append_assoc, takeX hc]
    exact ⟨by rw [hg]; rfl, rfl, rfl⟩
end Pg
end
section
set_option Elab.async false
set_option linter.all false
set_option maxRecDepth 100000
set_option maxHeartbeats 8000000
namespace Pg
open Ev
local macro_rules
  | `(tactic| simp! only [$as,*] $[$l]?) => `(tactic| simp only [wpB_cons, wpB_nil, wpS_set, wpS_setT, wpS_par, wpS_setI, wpS_expr, wpS_ret, wpS_ife, wpS_raise, wpS_try, wpS_aug, wpE_var, wpE_cst, wpE_tup, wpE_lst, wpE_dct0, wpE_bin, wpE_neg, wpE_not, wpE_and, wpE_or, wpE_cmp, wpE_cmp2, wpE_is, wpE_ife, wpE_idx, wpE_sl, wpE_call, wpE_blt, wpE_mth, wpE_isi, wpEs_nil, wpEs_cons, wpR_ok, wpR_ex, wpO_some, wpO_map, wpT_true, wpT_false, wpT_not, wpIfs_nil, wpIfs_one, getV_0, getV_s, List.set_cons_succ, List.set_cons_zero, g0_F, g0_isa, truth_non, truth_bl, truth_int, truth_tup, truth_lst, truth_fz, Option.map_some, Option.isSome_some, if_true, Bool.false_eq_true, if_false, Bool.not_true, Bool.not_false, isPart, setTg, setNames, bin_add, bin_sub, cmp_lt, cmp_gt, cmp_le, cmp_ge, cmp_eq, orD_some, cmp_ne, eq_int, eq_str, abs_int, tuple_seq, list_seq, seqOf_tup, seqOf_lst, seqOf_fz, seqOf_ref, int_bl, mdl, fdl, min2, max2, pu_non, pu_bl, pu_int, pu_str, pu_nil, pu_cons, pure_tup, Bool.and_self, Int.reduceLT, and_true, true_and, decide_true, decide_false, isC_b_non, isC_n_bl, isC_n_int, isC_b_int, isC_n_str, isC_b_str, isC_n_tup, isC_b_tup, isC_n_lst, isC_b_lst, isC_n_fz, isC_b_fz, isC_n_dct, isC_b_dct, isC_n_ref, isC_b_ref, isC_n_exc, isC_b_exc, isC_n_non, isC_true_true_true, isC_true_true_false, isC_true_false_true, isC_true_false_false, isC_false_true_true, isC_false_true_false, isC_false_false_true, isC_false_false_false, isTys_nil, isTys_c, isTy_exv, isTy_exc, isTy_non_int, isTy_non_str, isTy_non_tuple, isTy_non_list, isTy_non_dict, isTy_non_bool, isTy_bl_int, isTy_bl_str, isTy_bl_tuple, isTy_bl_list, isTy_bl_dict, isTy_bl_bool, isTy_int_int, isTy_int_str, isTy_int_tuple, isTy_int_list, isTy_int_dict, isTy_int_bool, isTy_str_int, isTy_str_str, isTy_str_tuple, isTy_str_list, isTy_str_dict, isTy_str_bool, isTy_tup_int, isTy_tup_str, isTy_tup_tuple, isTy_tup_list, isTy_tup_dict, isTy_tup_bool, isTy_lst_int, isTy_lst_str, isTy_lst_tuple, isTy_lst_list, isTy_lst_dict, isTy_lst_bool, isTy_fz_int, isTy_fz_str, isTy_fz_tuple, isTy_fz_list, isTy_fz_dict, isTy_fz_bool, isTy_dct_int, isTy_dct_str, isTy_dct_tuple, isTy_dct_list, isTy_dct_dict, isTy_dct_bool, Option.bind_some, settle_int, settle_str, settle_bl, settle_non, settle_ref, settle_fz, settle_exc, settle_tup, settle_lst, settle_dct, settles_nil, settles_cons, $as,*] $[$l]?)
variable {n : Nat} {S : Sto}
theorem declO_name {t : PySem.Str} {d : D} (h : declO t = some d) (hl : t.length ≤ 16760000) : ∀ s, att d 1 = .str s → s.length ≤ 16777216 := by
  obtain ⟨b1, b2, b3⟩ := cut_bd t " "
  unfold declO at h
  generalize cutS t " " = ws at *
  split at h
  · cases h
  · rename_i ks hk
    have hkl := mapM_len hk
    rw [List.length_drop] at hkl
    split at h
    · split at h
      · cases h
      · rename_i h2
        cases h
        intro s e
        have e' : D.str (ws.getD 1 "") = .str s := e
        cases e'
        match ws, hkl with
        | a :: b :: c, _ =>
          have := b1 b (by simp)
          show b.length ≤ _
          omega
        | [], h' => have e' : ks.length = 0 := h'; omega
        | [a], h' => have e' : ks.length = 0 := h'; omega
    · cases h
      intro s e
      match ws, hkl, e with
      | a :: b :: c, _, e =>
        have e' : D.str b = .str s := e
        have e2 : b = s := by injection e'
        have := b1 b (by simp)
        rw [← e2]
        omega
      | [a], h', e =>
        have : ks = [] := List.eq_nil_of_length_eq_zero (by simpa using h')
        subst this
        cases e
def partsO (t : PySem.Str) : List PySem.Str := if t = "" then [] else cutS t "; "
def worldO (t : PySem.Str) : Option (List D) := match (partsO t).mapM declO with
  | none => none
  | some ds => if (decide (ds.length ≤ 24) && goodW [] ds) = true then some ds else none
theorem parts_bd (t : PySem.Str) : ∀ p ∈ partsO t, p.length ≤ t.length := by
  unfold partsO
  split
  · intro p m; cases m
  · exact (cut_bd t "; ").1
theorem isa_tt : isaX 5 4 (.cls 1) = false := by decide +kernel
theorem isa_ww : isaX 5 1 (.cls 1) = true := by decide +kernel
theorem c_read {t : PySem.Str} (hl : t.length ≤ 16750000) (hc : Cl S) : wpR (fun d S' => S' = S ∧ ∃ rs, Wd rs ∧ wT rs = t ∧ worldO t = some (rs.map Rw.d) ∧ d = wd rs) (fun c S' => c = 4 ∧ S' = S ∧ ∀ rs, Wd rs → worldO t = some (rs.map Rw.d) → wT rs ≠ t) (F (n + 8) 14 [.str t] S) := by
  refine e_read_world (by simp only [settle_int, settle_str, settle_bl, settle_non, settle_ref, settle_fz, settle_exc, settle_tup, settle_lst, settle_dct, settles_nil, settles_cons]; rfl) ?_
  unfold b_read_world
  refine wp_ifF (fun Q' X' q => by simp! only [wpB_nil]; exact q) ?_
  rw [wpB_nil]
  refine wp_split 2 (fun ρ Z => ∃ i l, Z = S ++ l ∧ Cl Z ∧ Z[i]? = some (.lst ((partsO t).map .str)) ∧ ρ = [some (.str t), some (.ref i), none, none]) ?_ ?_
  · change wpB (g0 (n + 7)) [_, .ife _ [_] []] _ _ _ _ _
    refine wp_then [some (.str t), some (.ref S.length), none, none] (S ++ [.lst []]) (fun Qn' q => by simp! only [wpB_nil]; exact q) ?_
    have hc1 : Cl (S ++ [D.lst []]) := hc.lst rfl
    unfold partsO
    by_cases ht : t = ""
    · rw [if_pos ht]
      refine wp_ifF (fun Q' X' q => by simp! only [ht]; exact q) ?_
      rw [wpB_nil, wpB_nil]
      exact ⟨S.length, [.lst []], rfl, hc1, by simp, rfl⟩
    · rw [if_neg ht]
      refine wp_ifT (fun Q' X' q => by simp! only [ht]; exact q) ?_
      have hsp : mthE .split (.str t) [.str "; "] (S ++ [.lst []]) = some (.lst ((cutS t "; ").map .str), S ++ [.lst []]) := split_run (by decide +kernel) (by decide +kernel) (by omega)
      simp! only [rcv_split, hsp, settles_pure _ _ (strs_pure _)]
      exact ⟨(S ++ [D.lst []]).length, [.lst [], .lst ((cutS t "; ").map .str)], by simp, hc1.lst (strs_pure _), by rw [get_app0]; rfl, rfl⟩
  · rintro ρ Z ⟨i, l, hZ, hcZ, hi, rfl⟩
    change wpB (g0 (n + 7)) [.tryR _ _ _ _, .ife _ [_] [], .ret _] _ _ _ _ _
    have hpb := parts_bd t
    have lx : (if closed S.length Z = true then Z.take S.length else Z) = S := by rw [hZ]; exact takeX hc
    rw [wpB_cons, wpS_tryR, wpE_call, wpEs_cons]
    refine wp_compX (fun j vs S' => ((partsO t).take j).mapM declO = some vs ∧ S' = Z) ?_
    simp! only [wpB_nil]
    refine ⟨_, _, items_ref hi, pures_settled _ (strs_pure _), ⟨rfl, by first | rfl | trivial⟩, fun k vs S' h => by obtain ⟨_, rfl⟩ := h; exact hi, ?_, ?_⟩
    · rintro j y vs S' hd ⟨hvs, rfl⟩
      rw [List.getElem?_map] at hd
      obtain ⟨p, hp, rfl⟩ := Option.map_eq_some_iff.mp hd
      have hm := List.mem_of_getElem? hp
      have hpl := hpb p hm
      have q := c_decl (n := n + 4) (t := p) (by omega) hcZ
      cases hk : declO p with
      | some d =>
        rw [hk] at q
        have q' : F (n + 7) 13 [.str p] S' = some (.ok d S') := q
        simp! only [q']
        rw [take_at hp]
        exact mapM_snoc hvs hk
      | none =>
        rw [hk] at q
        have q' : F (n + 7) 13 [.str p] S' = some (.ex 4 S') := q
        simp! only [q', isa_tt, lx]
        refine fun rs _ h => ?_
        unfold worldO at h
        rw [mapM_none hm hk] at h
        cases h
    · rintro ds S' ⟨hds, rfl⟩
      rw [List.length_map, List.take_length] at hds
      have hp : pures ds = true := pures_of fun d m => by
        obtain ⟨x, _, e⟩ := mapM_mem hds d m
        exact declO_pure e
      have mk := c_made (n := n + 2) (S := S') (its := ds) hp (fun x m s e => by
        obtain ⟨p, pm, e2⟩ := mapM_mem hds x m
        exact declO_name e2 (by have := hpb p pm; omega) s e) hcZ
      have hW : worldO t = if (decide (ds.length ≤ 24) && goodW [] ds) = true then some ds else none := by
        unfold worldO
        rw [hds]
      by_cases hg : (decide (ds.length ≤ 24) && goodW [] ds) = true
      · rw [if_pos hg] at mk hW
        obtain ⟨g1, g2⟩ := Bool.and_eq_true_iff.mp hg
        obtain ⟨rs, rfl, r1, r2, _⟩ := good_rws g2
        have w : Wd rs := ⟨r1, by have := of_decide_eq_true g1; simpa using this, r2⟩
        have mk' : F (n + 7) 7 [.lst (rs.map Rw.d)] S' = some (.ok (wd rs) S') := mk
        have sw := c_show_world (n := n + 4) w.ok w.len hcZ
        simp! only [mk', settles_rw]
        by_cases ht : wT rs = t
        · simp! only [sw, ht]
          rw [hZ, leave_pu0 hc (wd_pure rs)]
          exact ⟨rfl, rs, w, ht, hW, rfl⟩
        · simp! only [sw, ht, lx]
          refine fun rs' w' h => ?_
          rw [hW] at h
          have e : wd rs' = wd rs := by
            show D.tup _ = D.tup _
            rw [← Option.some.inj h]
          intro e3
          have sw' := c_show_world (n := n + 4) w'.ok w'.len hcZ
          rw [e, sw] at sw'
          have e4 : wT rs = wT rs' := by
            injection sw' with q; injection q with q; injection q
          exact ht (e4.trans e3)
      · rw [if_neg hg] at mk hW
        have mk' : F (n + 7) 7 [.lst ds] S' = some (.ex 1 S') := mk
        simp! only [mk', isa_ww, lx]
        refine fun rs _ h => ?_
        rw [hW] at h; cases h
end Pg
end
section
set_option Elab.async false
set_option linter.all false
set_option maxRecDepth 100000
set_option maxHeartbeats 8000000
namespace Pg
open Ev
variable {n : Nat} {S : Sto}
/-! ### a world's own text is read -/
theorem okI_txt {i : Int} (h : IntT i) : okI (txtI i) = true ∧ valI (txtI i) = i := by
  have h1 := h.lo
  have h2 := h.hi
  have h3 := h.dg
  refine ⟨?_, ?_⟩
  · unfold okI
    have e : figL (txtI i) = figs i := rfl
    rw [e, decide_eq_true h1, decide_eq_true h2, Bool.true_and, Bool.true_and, List.all_eq_true]
    exact fun c m => h3 c m
  · unfold valI txtI
    rw [h.rd]; rfl
theorem kindO_kT {k : Kd} (hk : k.ok) : kindO (kT k) = some k.d := by
  obtain ⟨h1, h2, h3⟩ := kParts_ok hk
  have hcut : cutS (kT k) ":" = kParts k := cut_join (s := 58) (T := []) rfl (by decide +kernel) (by simp [kParts]) (fun p m c => (h3 p m 58 c).1 rfl)
  unfold kindO
  rw [hcut]
  have e1 : (kParts k).drop 1 = k.ints.map txtI := rfl
  have e2 : (kParts k).take 1 = [k.tag] := rfl
  rw [e1, e2]
  have ha : (k.ints.map txtI).all okI = true := by
    rw [List.all_eq_true]
    intro p m
    obtain ⟨i, hi, rfl⟩ := List.mem_map.mp m
    exact (okI_txt (hk.ints.2 i hi)).1
  rw [if_pos ha]
  have e3 : (k.ints.map txtI).map (fun p => D.int (valI p)) = k.ints.map .int := by
    rw [List.map_map]
    refine List.map_congr_left fun i hi => ?_
    show D.int (valI (txtI i)) = .int i
    rw [(okI_txt (hk.ints.2 i hi)).2]
  rw [e3]; rfl
theorem mapM_all {α β γ : Type} {f : β → Option γ} {g : α → β} {h : α → γ} : ∀ (l : List α), (∀ x ∈ l, f (g x) = some (h x)) → (l.map g).mapM f = some (l.map h)
  | [], _ => by simp
  | x :: l, k => by
    rw [List.map_cons, List.mapM_cons, k x List.mem_cons_self, mapM_all l fun y m => k y (List.mem_cons_of_mem _ m)]; rfl
theorem declO_rT {r : Rw} (h : r.ok) : declO (rT r) = some r.d := by
  obtain ⟨w1, w2, w3⟩ := rWords_ok h
  obtain ⟨k1, k2⟩ := h.kinds
  have hcut : cutS (rT r) " " = rWords r := cut_join (s := 32) (T := []) rfl (by decide +kernel) (by simp [rWords]) (fun p m c => (w3 p m 32 c).1 rfl)
  unfold declO
  rw [hcut]
  have e1 : (rWords r).drop 2 = r.kinds.map kT := rfl
  rw [e1, mapM_all r.kinds fun k m => kindO_kT (k2 k m)]
  have e2 : (rWords r).headD "" = r.word := rfl
  have e3 : (rWords r).take 2 = [r.word, r.nm] := rfl
  have e4 : (rWords r).getD 1 "" = r.nm := rfl
  simp only [e2, e3, e4]
  cases r with
  | unk nm k =>
    have q1 : ¬ (("unknown" : PySem.Str) = "function") := by decide
    show (if ("unknown" : PySem.Str) = "function" then _ else _) = _
    rw [if_neg q1]; rfl
  | row nm a b =>
    have q1 : ¬ (("row" : PySem.Str) = "function") := by decide
    show (if ("row" : PySem.Str) = "function" then _ else _) = _
    rw [if_neg q1]; rfl
  | fun_ nm ks k =>
    obtain ⟨⟨f1, f2, f3⟩, f4, _⟩ := h.ks
    show (if ("function" : PySem.Str) = "function" then _ else _) = _
    rw [if_pos rfl]
    have e5 : (Rw.fun_ nm ks k).kinds.map Kd.d = ks.map Kd.d ++ [k.d] := by simp [Rw.kinds]
    rw [e5, if_neg (by simp; omega)]
    simp [Rw.d, Rw.nm]
theorem worldO_wT {rs : List Rw} (w : Wd rs) : worldO (wT rs) = some (rs.map Rw.d) := by
  have hp : (partsO (wT rs)).mapM declO = some (rs.map Rw.d) := by
    cases rs with
    | nil => rfl
    | cons r rs =>
      unfold partsO
      rw [if_neg wT_ne]
      have hcut : cutS (wT (r :: rs)) "; " = (r :: rs).map rT := cut_join (s := 59) (T := [32]) rfl (by decide +kernel) (by simp) (fun p m c => by
        obtain ⟨q, hq, rfl⟩ := List.mem_map.mp m
        exact rT_ch (w.ok q hq) 59 c rfl)
      rw [hcut]
      exact mapM_all (r :: rs) fun q m => declO_rT (w.ok q m)
  unfold worldO
  rw [hp]
  simp only
  rw [if_pos w.good]
theorem c_read_world {rs : List Rw} (w : Wd rs) (hc : Cl S) : F (n + 8) 14 [.str (wT rs)] S = some (.ok (wd rs) S) := by
  have hl := wT_len w.ok w.len
  refine wpR_is (wpR_mono (c_read (n := n) (t := wT rs) (by omega) hc) ?_ ?_)
  · rintro d S' ⟨rfl, rs', w', e1, e2, rfl⟩
    rw [worldO_wT w] at e2
    exact ⟨by show D.tup _ = D.tup _; rw [Option.some.inj e2], rfl⟩
  · rintro c S' ⟨_, _, h⟩
    exact h rs w (worldO_wT w) rfl
end Pg
end
section
set_option Elab.async false
set_option linter.all false
set_option maxRecDepth 100000
set_option maxHeartbeats 8000000
namespace Pg
open Ev
local macro_rules
  | `(tactic| simp! only [$as,*] $[$l]?) => `(tactic| simp only [wpB_cons, wpB_nil, wpS_set, wpS_setT, wpS_par, wpS_setI, wpS_expr, wpS_ret, wpS_ife, wpS_raise, wpS_try, wpS_aug, wpE_var, wpE_cst, wpE_tup, wpE_lst, wpE_dct0, wpE_bin, wpE_neg, wpE_not, wpE_and, wpE_or, wpE_cmp, wpE_cmp2, wpE_is, wpE_ife, wpE_idx, wpE_sl, wpE_call, wpE_blt, wpE_mth, wpE_isi, wpEs_nil, wpEs_cons, wpR_ok, wpR_ex, wpO_some, wpO_map, wpT_true, wpT_false, wpT_not, wpIfs_nil, wpIfs_one, getV_0, getV_s, List.set_cons_succ, List.set_cons_zero, g0_F, g0_isa, truth_non, truth_bl, truth_int, truth_tup, truth_lst, truth_fz, Option.map_some, Option.isSome_some, if_true, Bool.false_eq_true, if_false, Bool.not_true, Bool.not_false, isPart, setTg, setNames, bin_add, bin_sub, cmp_lt, cmp_gt, cmp_le, cmp_ge, cmp_eq, orD_some, cmp_ne, eq_int, eq_str, abs_int, tuple_seq, list_seq, seqOf_tup, seqOf_lst, seqOf_fz, seqOf_ref, int_bl, mdl, fdl, min2, max2, pu_non, pu_bl, pu_int, pu_str, pu_nil, pu_cons, pure_tup, Bool.and_self, Int.reduceLT, and_true, true_and, decide_true, decide_false, isC_b_non, isC_n_bl, isC_n_int, isC_b_int, isC_n_str, isC_b_str, isC_n_tup, isC_b_tup, isC_n_lst, isC_b_lst, isC_n_fz, isC_b_fz, isC_n_dct, isC_b_dct, isC_n_ref, isC_b_ref, isC_n_exc, isC_b_exc, isC_n_non, isC_true_true_true, isC_true_true_false, isC_true_false_true, isC_true_false_false, isC_false_true_true, isC_false_true_false, isC_false_false_true, isC_false_false_false, isTys_nil, isTys_c, isTy_exv, isTy_exc, isTy_non_int, isTy_non_str, isTy_non_tuple, isTy_non_list, isTy_non_dict, isTy_non_bool, isTy_bl_int, isTy_bl_str, isTy_bl_tuple, isTy_bl_list, isTy_bl_dict, isTy_bl_bool, isTy_int_int, isTy_int_str, isTy_int_tuple, isTy_int_list, isTy_int_dict, isTy_int_bool, isTy_str_int, isTy_str_str, isTy_str_tuple, isTy_str_list, isTy_str_dict, isTy_str_bool, isTy_tup_int, isTy_tup_str, isTy_tup_tuple, isTy_tup_list, isTy_tup_dict, isTy_tup_bool, isTy_lst_int, isTy_lst_str, isTy_lst_tuple, isTy_lst_list, isTy_lst_dict, isTy_lst_bool, isTy_fz_int, isTy_fz_str, isTy_fz_tuple, isTy_fz_list, isTy_fz_dict, isTy_fz_bool, isTy_dct_int, isTy_dct_str, isTy_dct_tuple, isTy_dct_list, isTy_dct_dict, isTy_dct_bool, Option.bind_some, settle_int, settle_str, settle_bl, settle_non, settle_ref, settle_fz, settle_exc, settle_tup, settle_lst, settle_dct, settles_nil, settles_cons, $as,*] $[$l]?)
variable {n : Nat} {S : Sto}
/-! ### texts that write no world -/
structure Bad (t : PySem.Str) : Prop where
  len : t.length ≤ 6000
  no : ∀ rs, Wd rs → worldO t = some (rs.map Rw.d) → wT rs ≠ t
def strD : D → PySem.Str
  | .str s => s
  | .int i => txtI i
  | _ => ""
def kTD : D → PySem.Str
  | .tup ds => PySem.Txt.join ":" (ds.map strD)
  | _ => ""
def rTD : D → PySem.Str
  | .tup (.str w :: .str nm :: rest) => PySem.Txt.join " " (w :: nm :: if w = "function" then (match rest with | [.tup ks, k] => ks.map kTD ++ [kTD k] | _ => []) else rest.map kTD)
  | _ => ""
def shD (ds : List D) : PySem.Str := PySem.Txt.join "; " (ds.map rTD)
theorem kTD_d (k : Kd) : kTD k.d = kT k := by
  unfold Kd.d kTD kT kParts
  simp only [List.map_cons, List.map_map]
  rfl
theorem kTD_ds (ks : List Kd) : (ks.map Kd.d).map kTD = ks.map kT := by
  rw [List.map_map]
  exact List.map_congr_left fun k _ => kTD_d k
theorem rTD_d (r : Rw) : rTD r.d = rT r := by
  cases r with
  | unk nm k =>
    have q1 : ¬ (("unknown" : PySem.Str) = "function") := by decide
    show PySem.Txt.join " " (("unknown" : PySem.Str) :: nm :: if ("unknown" : PySem.Str) = "function" then _ else [k.d].map kTD) = _
    rw [if_neg q1, List.map_cons, kTD_d]; rfl
  | row nm a b =>
    have q1 : ¬ (("row" : PySem.Str) = "function") := by decide
    show PySem.Txt.join " " (("row" : PySem.Str) :: nm :: if ("row" : PySem.Str) = "function" then _ else [a.d, b.d].map kTD) = _
    rw [if_neg q1, List.map_cons, List.map_cons, kTD_d, kTD_d]; rfl
  | fun_ nm ks k =>
    show PySem.Txt.join " " (("function" : PySem.Str) :: nm :: if ("function" : PySem.Str) = "function" then ((ks.map Kd.d).map kTD ++ [kTD k.d]) else _) = _
    rw [if_pos rfl, kTD_ds, kTD_d]
    unfold rT rWords Rw.kinds
    simp [Rw.word, Rw.nm]
theorem shD_d (rs : List Rw) : shD (rs.map Rw.d) = wT rs := by
  unfold shD wT
  rw [List.map_map]
  congr 1
  exact List.map_congr_left fun r _ => rTD_d r
def chkB (t : PySem.Str) : Bool := decide (t.length ≤ 6000) && (match worldO t with | none => true | some ds => !decide (shD ds = t))
theorem bad_of {t : PySem.Str} (h : chkB t = true) : Bad t := by
  obtain ⟨h1, h2⟩ := Bool.and_eq_true_iff.mp h
  refine ⟨of_decide_eq_true h1, fun rs w e q => ?_⟩
  rw [e] at h2
  have : shD (rs.map Rw.d) = t := by rw [shD_d, q]
  simp only [this, decide_true, Bool.not_true] at h2
  cases h2
theorem join_one {y x : PySem.Str} : PySem.Txt.join y [x] = x := by
  rw [TL.join_eq]; rfl
theorem joinL_two {sep p q : List Nat} {ps : List (List Nat)} : ∀ c ∈ sep, c ∈ TL.joinL sep (p :: q :: ps) := fun c m => by
  show c ∈ p ++ (sep ++ TL.joinL sep (q :: ps))
  exact List.mem_append_right _ (List.mem_append_left _ m)
theorem bad_long {t : PySem.Str} (h1 : 59 ∉ TL.tl t) (h2 : 140 < t.length) (h3 : t.length ≤ 6000) : Bad t := by
  refine ⟨h3, fun rs w _ e => ?_⟩
  match rs, w, e with
  | [], w, e =>
    rw [← e] at h2
    have : (wT []).length = 0 := by decide
    omega
  | [r], w, e =>
    have e2 : wT [r] = rT r := join_one
    rw [← e, e2] at h2
    have := rT_len (w.ok r (by simp))
    omega
  | r :: q :: rs, w, e =>
    apply h1
    rw [← e]
    unfold wT
    rw [TL.join_eq, TL.tl_join, List.map_cons, List.map_cons, List.map_cons, List.map_cons]
    exact joinL_two 59 (by decide +kernel)
/-! ### the list of them -/
def isCs : List PE → Bool
  | [] => true
  | .cst (.str _) :: r => isCs r
  | _ => false
def strsC : List PE → List PySem.Str
  | .cst (.str s) :: r => s :: strsC r
  | _ => []
theorem wpEs_csts {g : G} {X : Nat → Sto → Prop} {ρ : Env} {Z : Sto} : ∀ (pes : List PE) (Q : List D → Sto → Prop), isCs pes = true → Q ((strsC pes).map .str) Z → wpEs g pes Q X ρ Z
  | [], Q, _, q => by rw [wpEs_nil]; exact q
  | .cst (.str s) :: r, Q, h, q => by
    rw [wpEs_cons, wpE_cst]
    exact wpEs_csts r _ h q
structure NI (S : Sto) (x : Int) (b : Nat) (ρ : Env) (Z : Sto) : Prop where
  ok : ∃ (i : Nat) (kv : Option D) (l : Sto) (L : List PySem.Str), Z = S ++ l ∧ Cl Z ∧ Z[i]? = some (.lst (L.map .str)) ∧ ρ = [some (.int x), some (.ref i), kv] ∧ 1 ≤ L.length ∧ L.length ≤ b ∧ b ≤ 1000 ∧ (∀ t ∈ L, Bad t) ∧ S.length ≤ i
theorem none_gen {g : G} {x : Int} {b : Nat} {pes : List PE} {es : List PySem.Str} {ss : List PS} {Qn : Env → Sto → Prop} {Q : D → Sto → Prop} {X : Nat → Sto → Prop} {ρ : Env} {Z : Sto} (h : NI S x b ρ Z) (hev : ∀ (Q' : List D → Sto → Prop) ρ Z, Q' (es.map .str) Z → wpEs g pes Q' X ρ Z)
    (hb : ∀ t ∈ es, Bad t) (hl : es.length ≤ 5) (hb5 : b + 5 ≤ 1000) (k : ∀ ρ Z, NI S x (b + 5) ρ Z → wpB g ss Qn Q X ρ Z) : wpB g (.set 1 (.bin .add (.var 1) (.lst pes)) :: ss) Qn Q X ρ Z := by
  obtain ⟨i, kv, l, L, hZ, hc, hi, rfl, l1, l2, _, hL, _⟩ := h
  rw [wpB_cons, wpS_set, wpE_bin, wpE_var, getV_s, getV_0, wpO_some, wpE_lst]
  refine hev _ _ _ ?_
  have ad := add_rl' (b := es.map .str) hi (by simp; omega)
  rw [ad]
  simp only [wpO_some, settle_lst, ← List.map_append, settles_pure _ _ (strs_pure _), List.set_cons_succ, List.set_cons_zero]
  refine k _ _ ⟨Z.length, kv, l ++ [.lst ((L ++ es).map .str)], L ++ es, by rw [hZ, List.append_assoc], hc.lst (strs_pure _), by simp, rfl, by simp; omega, by simp; omega, hb5, fun t m => ?_, by rw [hZ]; simp⟩
  rcases List.mem_append.mp m with m | m
  · exact hL t m
  · exact hb t m
theorem none_seq {g : G} {x : Int} {b : Nat} {pes : List PE} {ss : List PS} {Qn : Env → Sto → Prop} {Q : D → Sto → Prop} {X : Nat → Sto → Prop} {ρ : Env} {Z : Sto} (h : NI S x b ρ Z) (hk : isCs pes = true) (hb : ((strsC pes).all chkB && decide ((strsC pes).length ≤ 5)) = true) (hb5 : b + 5 ≤ 1000)
    (k : ∀ ρ Z, NI S x (b + 5) ρ Z → wpB g ss Qn Q X ρ Z) : wpB g (.set 1 (.bin .add (.var 1) (.lst pes)) :: ss) Qn Q X ρ Z := by
  obtain ⟨h1, h2⟩ := Bool.and_eq_true_iff.mp hb
  exact none_gen h (fun Q' ρ Z q => wpEs_csts pes Q' hk q) (fun t m => bad_of (List.all_eq_true.mp h1 t m)) (of_decide_eq_true h2) hb5 k
/-! ### the long ones -/
def longT (a : PySem.Str) (c m : Nat) (b : PySem.Str) : PySem.Str := (a ++ ⟨(List.replicate m c).toArray⟩) ++ b
theorem long_len (a : PySem.Str) (c m : Nat) (b : PySem.Str) : (longT a c m b).length = a.length + m + b.length := by
  unfold longT
  rw [TL.len_tl, TL.tl_append, TL.tl_append, List.length_append, List.length_append, ← TL.len_tl, ← TL.len_tl]
  show a.length + (List.replicate m c).length + b.length = _
  rw [List.length_replicate]
theorem long_bad {a : PySem.Str} {c m : Nat} {b : PySem.Str} (h1 : 59 ∉ TL.tl a) (h2 : c ≠ 59) (h3 : 59 ∉ TL.tl b) (h4 : 140 < m) (h5 : a.length + m + b.length ≤ 6000) : Bad (longT a c m b) := by
  refine bad_long (fun z => ?_) (by rw [long_len]; omega) (by rw [long_len]; exact h5)
  unfold longT at z
  rw [TL.tl_append, TL.tl_append] at z
  rcases List.mem_append.mp z with z | z
  · rcases List.mem_append.mp z with z | z
    · exact h1 z
    · exact h2 (List.mem_replicate.mp z).2.symm
  · exact h3 z
theorem long_bins {a o b : PySem.Str} {c m : Nat} {mi : Int} (hmi : mi = (m : Int)) (ho : o = ⟨#[c]⟩) (hm : m ≤ 10000) (ha : a.length + m + b.length ≤ 6000) :
    ∃ u v, (∀ S, binE S .mul (.str o) (.int mi) = some (.str u)) ∧ (∀ S, binE S .add (.str a) (.str u) = some (.str v)) ∧ ∀ S, binE S .add (.str v) (.str b) = some (.str (longT a c m b)) := by
  subst ho
  subst hmi
  have e0 : (⟨(List.replicate m c).toArray⟩ : PySem.Str).length = m := by
    rw [TL.len_tl]
    show (List.replicate m c).length = m
    rw [List.length_replicate]
  have e1 : (a ++ (⟨(List.replicate m c).toArray⟩ : PySem.Str)).length = a.length + m := by
    rw [TL.len_tl, TL.tl_append, List.length_append, ← TL.len_tl, ← TL.len_tl, e0]
  refine ⟨⟨(List.replicate m c).toArray⟩, a ++ ⟨(List.replicate m c).toArray⟩, fun S => ?_, fun S => add_str (by rw [e0]; omega), fun S => add_str (by rw [e1]; omega)⟩
  have := mul_strB (S := S) (c := c) (m := (m : Int)) (by omega) (by omega)
  rw [Int.toNat_natCast] at this
  exact this
theorem wpE_long {g : G} {Q : D → Sto → Prop} {X : Nat → Sto → Prop} {ρ : Env} {Z : Sto} {a o b u v t : PySem.Str} {mi : Int} (p : ∀ S, binE S .mul (.str o) (.int mi) = some (.str u)) (q : ∀ S, binE S .add (.str a) (.str u) = some (.str v)) (r : ∀ S, binE S .add (.str v) (.str b) = some (.str t)) :
    wpE g (.bin .add (.bin .add (.cst (.str a)) (.bin .mul (.cst (.str o)) (.cst (.int mi)))) (.cst (.str b))) Q X ρ Z = Q (.str t) Z := by
  simp! only [p, q, r]
structure LongE (a o : PySem.Str) (mi : Int) (b t : PySem.Str) : Prop where
  bd : Bad t
  ex : ∃ u v, (∀ S, binE S .mul (.str o) (.int mi) = some (.str u)) ∧ (∀ S, binE S .add (.str a) (.str u) = some (.str v)) ∧ ∀ S, binE S .add (.str v) (.str b) = some (.str t)
theorem long_ex {a o b : PySem.Str} (c m : Nat) {mi : Int} (h1 : 59 ∉ TL.tl a) (h2 : c ≠ 59) (h3 : 59 ∉ TL.tl b) (h4 : 140 < m) (hmi : mi = (m : Int)) (ho : o = ⟨#[c]⟩) (hm : m ≤ 10000) (ha : a.length + m + b.length ≤ 6000) : ∃ t, LongE a o mi b t :=
  ⟨longT a c m b, long_bad h1 h2 h3 h4 ha, long_bins hmi ho hm ha⟩
end Pg
end
section
set_option Elab.async false
set_option linter.all false
set_option maxRecDepth 100000
set_option maxHeartbeats 8000000
namespace Pg
open Ev
local macro_rules
  | `(tactic| simp! only [$as,*] $[$l]?) => `(tactic| simp only [wpB_cons, wpB_nil, wpS_set, wpS_setT, wpS_par, wpS_setI, wpS_expr, wpS_ret, wpS_ife, wpS_raise, wpS_try, wpS_aug, wpE_var, wpE_cst, wpE_tup, wpE_lst, wpE_dct0, wpE_bin, wpE_neg, wpE_not, wpE_and, wpE_or, wpE_cmp, wpE_cmp2, wpE_is, wpE_ife, wpE_idx, wpE_sl, wpE_call, wpE_blt, wpE_mth, wpE_isi, wpEs_nil, wpEs_cons, wpR_ok, wpR_ex, wpO_some, wpO_map, wpT_true, wpT_false, wpT_not, wpIfs_nil, wpIfs_one, getV_0, getV_s, List.set_cons_succ, List.set_cons_zero, g0_F, g0_isa, truth_non, truth_bl, truth_int, truth_tup, truth_lst, truth_fz, Option.map_some, Option.isSome_some, if_true, Bool.false_eq_true, if_false, Bool.not_true, Bool.not_false, isPart, setTg, setNames, bin_add, bin_sub, cmp_lt, cmp_gt, cmp_le, cmp_ge, cmp_eq, orD_some, cmp_ne, eq_int, eq_str, abs_int, tuple_seq, list_seq, seqOf_tup, seqOf_lst, seqOf_fz, seqOf_ref, int_bl, mdl, fdl, min2, max2, pu_non, pu_bl, pu_int, pu_str, pu_nil, pu_cons, pure_tup, Bool.and_self, Int.reduceLT, and_true, true_and, decide_true, decide_false, isC_b_non, isC_n_bl, isC_n_int, isC_b_int, isC_n_str, isC_b_str, isC_n_tup, isC_b_tup, isC_n_lst, isC_b_lst, isC_n_fz, isC_b_fz, isC_n_dct, isC_b_dct, isC_n_ref, isC_b_ref, isC_n_exc, isC_b_exc, isC_n_non, isC_true_true_true, isC_true_true_false, isC_true_false_true, isC_true_false_false, isC_false_true_true, isC_false_true_false, isC_false_false_true, isC_false_false_false, isTys_nil, isTys_c, isTy_exv, isTy_exc, isTy_non_int, isTy_non_str, isTy_non_tuple, isTy_non_list, isTy_non_dict, isTy_non_bool, isTy_bl_int, isTy_bl_str, isTy_bl_tuple, isTy_bl_list, isTy_bl_dict, isTy_bl_bool, isTy_int_int, isTy_int_str, isTy_int_tuple, isTy_int_list, isTy_int_dict, isTy_int_bool, isTy_str_int, isTy_str_str, isTy_str_tuple, isTy_str_list, isTy_str_dict, isTy_str_bool, isTy_tup_int, isTy_tup_str, isTy_tup_tuple, isTy_tup_list, isTy_tup_dict, isTy_tup_bool, isTy_lst_int, isTy_lst_str, isTy_lst_tuple, isTy_lst_list, isTy_lst_dict, isTy_lst_bool, isTy_fz_int, isTy_fz_str, isTy_fz_tuple, isTy_fz_list, isTy_fz_dict, isTy_fz_bool, isTy_dct_int, isTy_dct_str, isTy_dct_tuple, isTy_dct_list, isTy_dct_dict, isTy_dct_bool, Option.bind_some, settle_int, settle_str, settle_bl, settle_non, settle_ref, settle_fz, settle_exc, settle_tup, settle_lst, settle_dct, settles_nil, settles_cons, $as,*] $[$l]?)
variable {n : Nat} {S : Sto}
def oneU (j : Nat) : PySem.Str := ("unknown " ++ ⟨#[97 + j]⟩) ++ (" truth" : PySem.Str)
def all25 : List PySem.Str := (List.range 25).map oneU
theorem strs_under (b : Nat) : ∀ ys : List PySem.Str, (D.lst (ys.map .str)).under b = true
  | [] => rfl
  | y :: ys => by
    have := strs_under b ys
    unfold D.under at this ⊢
    rw [List.map_cons, unders, this]; rfl
theorem all25_ok : (∀ y ∈ all25, y.length ≤ 20) ∧ all25.length ≤ 25 := by decide +kernel
theorem all25_bad : chkB (PySem.Txt.join "; " all25) = true := by decide +kernel
theorem let25 : ∀ j : Fin 25, (TL.tl ("abcdefghijklmnopqrstuvwxy" : PySem.Str))[j.val]? = some (97 + j.val) := by decide +kernel
theorem idx25 {j : Nat} (hj : j < 25) : idxE S (.str "abcdefghijklmnopqrstuvwxy") (.int j) = some (.str ⟨#[97 + j]⟩) := by
  show (if ("abcdefghijklmnopqrstuvwxy" : PySem.Str).length ≤ 16777216 then (Ev.atI (TL.tl ("abcdefghijklmnopqrstuvwxy" : PySem.Str)) (j : Int)).map (fun c => D.str ⟨#[c]⟩) else none) = _
  rw [if_pos (by decide +kernel)]
  unfold Ev.atI
  rw [if_pos (by omega), Int.toNat_natCast, let25 ⟨j, hj⟩]; rfl
theorem one_len (j : Nat) : (("unknown " : PySem.Str) ++ ⟨#[97 + j]⟩).length = 9 := by
  rw [TL.len_tl, TL.tl_append, List.length_append]
  have : (TL.tl ("unknown " : PySem.Str)).length = 8 := by decide +kernel
  rw [this]; rfl
def st1 : PS := .set 1 (.bin .add (.var 1) (.lst [(.cst (.str "unknown p range:0:1_0")), (.bin .add (.bin .add (.cst (.str "unknown p range:")) (.bin .mul (.cst (.str "9")) (.cst (.int 5000)))) (.cst (.str ":3")))]))
def st2 : PS := .set 1 (.bin .add (.var 1) (.lst [(.bin .add (.bin .add (.cst (.str "unknown p table:")) (.bin .mul (.cst (.str "0")) (.cst (.int 4999)))) (.cst (.str "3"))), (.bin .add (.bin .add (.cst (.str "unknown p range:-")) (.bin .mul (.cst (.str "5")) (.cst (.int 4400)))) (.cst (.str ":3")))]))
def st4 : PS := .set 1 (.bin .add (.var 1) (.lst [(.cst (.str "unknown p truth\n")), (.bin .add (.bin .add (.cst (.str "function f table:")) (.bin .mul (.cst (.str "2")) (.cst (.int 4400)))) (.cst (.str " truth")))]))
theorem lo1 : ∃ t, LongE "unknown p range:" "9" 5000 ":3" t := long_ex 57 5000 (by decide +kernel) (by decide) (by decide +kernel) (by decide) rfl (by decide +kernel) (by decide) (by decide +kernel)
theorem lo2 : ∃ t, LongE "unknown p table:" "0" 4999 "3" t := long_ex 48 4999 (by decide +kernel) (by decide) (by decide +kernel) (by decide) rfl (by decide +kernel) (by decide) (by decide +kernel)
theorem lo3 : ∃ t, LongE "unknown p range:-" "5" 4400 ":3" t := long_ex 53 4400 (by decide +kernel) (by decide) (by decide +kernel) (by decide) rfl (by decide +kernel) (by decide) (by decide +kernel)
theorem lo4 : ∃ t, LongE "function f table:" "2" 4400 " truth" t := long_ex 50 4400 (by decide +kernel) (by decide) (by decide +kernel) (by decide) rfl (by decide +kernel) (by decide) (by decide +kernel)
theorem lo5 : Bad "unknown p range:0:1_0" := bad_of (by decide +kernel)
theorem lo6 : Bad "unknown p truth\n" := bad_of (by decide +kernel)
section
variable {g : G} {x : Int} {b : Nat} {ss : List PS} {Qn : Env → Sto → Prop} {Q : D → Sto → Prop} {X : Nat → Sto → Prop} {ρ : Env} {Z : Sto}
theorem two_mem {t a c : PySem.Str} (m : t ∈ [a, c]) (ha : Bad a) (hc : Bad c) : Bad t := by
  rcases List.mem_cons.mp m with rfl | m
  · exact ha
  · rw [List.mem_singleton.mp m]; exact hc
theorem none_1 (h : NI S x b ρ Z) (hb5 : b + 5 ≤ 1000) (k : ∀ ρ Z, NI S x (b + 5) ρ Z → wpB g ss Qn Q X ρ Z) : wpB g (st1 :: ss) Qn Q X ρ Z := by
  obtain ⟨t, d, u, v, p, q, r⟩ := lo1
  refine none_gen (es := [("unknown p range:0:1_0" : PySem.Str), t]) h (fun Q' ρ Z z => ?_) (fun t m => two_mem m lo5 d) (by simp) hb5 k
  rw [wpEs_cons, wpE_cst, wpEs_cons, wpE_long p q r, wpEs_nil]; exact z
theorem none_2 (h : NI S x b ρ Z) (hb5 : b + 5 ≤ 1000) (k : ∀ ρ Z, NI S x (b + 5) ρ Z → wpB g ss Qn Q X ρ Z) : wpB g (st2 :: ss) Qn Q X ρ Z := by
  obtain ⟨t, d, u, v, p, q, r⟩ := lo2
  obtain ⟨t', d', u', v', p', q', r'⟩ := lo3
  refine none_gen (es := [t, t']) h (fun Q' ρ Z z => ?_) (fun t m => two_mem m d d') (by simp) hb5 k
  rw [wpEs_cons, wpE_long p q r, wpEs_cons, wpE_long p' q' r', wpEs_nil]; exact z
theorem none_4 (h : NI S x b ρ Z) (hb5 : b + 5 ≤ 1000) (k : ∀ ρ Z, NI S x (b + 5) ρ Z → wpB g ss Qn Q X ρ Z) : wpB g (st4 :: ss) Qn Q X ρ Z := by
  obtain ⟨t, d, u, v, p, q, r⟩ := lo4
  refine none_gen (es := [("unknown p truth\n" : PySem.Str), t]) h (fun Q' ρ Z z => ?_) (fun t m => two_mem m lo6 d) (by simp) hb5 k
  rw [wpEs_cons, wpE_cst, wpEs_cons, wpE_long p q r, wpEs_nil]; exact z
def st3 : PS := .expr (.mth .append (.var 1) [(.mth .join (.cst (.str "; ")) [(.comp (.nm 2) .rng1 [(.cst (.int 25))] [] (.bin .add (.bin .add (.cst (.str "unknown ")) (.idx (.cst (.str "abcdefghijklmnopqrstuvwxy")) (.var 2))) (.cst (.str " truth"))))])])
theorem none_3 (h : NI S x b ρ Z) (hb5 : b + 5 ≤ 1000) (k : ∀ ρ Z, NI S x (b + 5) ρ Z → wpB g ss Qn Q X ρ Z) : wpB g (st3 :: ss) Qn Q X ρ Z := by
  obtain ⟨i, kv, l, L, hZ, hcZ, hi, rfl, l1, l2, l3, hL, hSi⟩ := h
  have rcA : recvOk .append (.ref i) Z = true := by rw [rcv_append, listOf_r, hi]; rfl
  unfold st3
  simp! only [rcA, rcv_join]
  refine wp_comp (fun j vs S' => j ≤ 25 ∧ vs = ((List.range j).map oneU).map .str ∧ S' = Z) ?_
  simp! only [wpB_nil]
  refine ⟨_, none, items_r1 (by decide) (by decide), rng_settled, ⟨by decide, rfl, by first | rfl | trivial⟩, fun _ _ _ _ => trivial, ?_, ?_⟩
  · rintro j y vs S' hd ⟨hj, rfl, rfl⟩
    obtain ⟨rfl, hj2⟩ := rng_at hd
    have hj2 : j < 25 := hj2
    have a1 : ∀ {S}, binE S .add (.str "unknown ") (.str ⟨#[97 + j]⟩) = some (.str ("unknown " ++ ⟨#[97 + j]⟩)) := fun {S} => add_str (by
      have e8 : ("unknown " : PySem.Str).length = 8 := by decide +kernel
      have e1 : (⟨#[97 + j]⟩ : PySem.Str).length = 1 := rfl
      omega)
    have a2 : ∀ {S}, binE S .add (.str ("unknown " ++ ⟨#[97 + j]⟩)) (.str " truth") = some (.str (oneU j)) := fun {S} => add_str (by rw [one_len]; decide +kernel)
    simp! only [idx25 hj2, a1, a2]
    refine ⟨by omega, ?_⟩
    rw [List.range_succ, List.map_append, List.map_append]; rfl
  · rintro vs S' ⟨hj, rfl, rfl⟩
    rw [rng_len]
    have jn := join_lst (S := S') (x := "; ") (ys := all25) all25_ok.1 all25_ok.2 (by decide +kernel)
    have jn' : mthE .join (.str "; ") [.lst (((List.range 25).map oneU).map .str)] S' = some (.str (PySem.Txt.join "; " all25), S') := jn
    have ap : mthE .append (.ref i) [.str (PySem.Txt.join "; " all25)] S' = some (.non, S'.set i (.lst ((L ++ [PySem.Txt.join "; " all25]).map .str))) := by
      rw [mth_append, hi]
      simp only [settle_str]
      rw [if_pos (by simp; omega)]
      simp
    have e25 : ((25 : Int)).toNat = 25 := rfl
    simp! only [e25, jn', ap]
    refine k _ _ ⟨i, kv, l.set (i - S.length) (.lst ((L ++ [PySem.Txt.join "; " all25]).map .str)), L ++ [PySem.Txt.join "; " all25], ?_, Cl.set hcZ (strs_under _ _), ?_, rfl, by simp, by simp; omega, hb5, fun t m => ?_, hSi⟩
    · rw [hZ, List.set_append_right _ _ hSi]
    · exact get_set hi
    · rcases List.mem_append.mp m with m | m
      · exact hL t m
      · rw [List.mem_singleton.mp m]; exact bad_of all25_bad
end
theorem c__law_none {x : Int} (hc : Cl S) : ∃ t, Bad t ∧ F (n + 1) 28 [.int x] S = some (.ok (.str t) S) := by
  have key : wpR (fun d S' => (∃ t, Bad t ∧ d = .str t) ∧ S' = S) (fun _ _ => False) (F (n + 1) 28 [.int x] S) := by
    refine e__law_none (by simp only [settle_int, settle_str, settle_bl, settle_non, settle_ref, settle_fz, settle_exc, settle_tup, settle_lst, settle_dct, settles_nil, settles_cons]; rfl) ?_
    unfold b__law_none
    rw [wpB_cons, wpS_set, wpE_lst]
    refine wpEs_csts _ _ rfl ?_
    simp only [settle_lst, settles_pure _ _ (strs_pure _), List.set_cons_succ, List.set_cons_zero]
    have b0 : ((strsC [(.cst (.str "unknown p")), (.cst (.str "unknown p truth ")), (.cst (.str " unknown p truth")), (.cst (.str "unknown  p truth"))]).all chkB) = true := by decide +kernel
    have h0 : NI S x 5 [some (.int x), some (.ref S.length), none] (S ++ [.lst ((strsC [(.cst (.str "unknown p")), (.cst (.str "unknown p truth ")), (.cst (.str " unknown p truth")), (.cst (.str "unknown  p truth"))]).map .str)]) :=
      ⟨S.length, none, _, _, rfl, hc.lst (strs_pure _), by simp, rfl, by decide, by decide, by decide, fun t m => bad_of (List.all_eq_true.mp b0 t m), Nat.le_refl _⟩
    refine none_seq h0 rfl (by decide +kernel) (by decide) fun ρ Z h => ?_
    refine none_seq h rfl (by decide +kernel) (by decide) fun ρ Z h => ?_
    refine none_seq h rfl (by decide +kernel) (by decide) fun ρ Z h => ?_
    refine none_seq h rfl (by decide +kernel) (by decide) fun ρ Z h => ?_
    refine none_seq h rfl (by decide +kernel) (by decide) fun ρ Z h => ?_
    refine none_seq h rfl (by decide +kernel) (by decide) fun ρ Z h => ?_
    refine none_seq h rfl (by decide +kernel) (by decide) fun ρ Z h => ?_
    refine none_seq h rfl (by decide +kernel) (by decide) fun ρ Z h => ?_
    refine none_seq h rfl (by decide +kernel) (by decide) fun ρ Z h => ?_
    refine none_seq h rfl (by decide +kernel) (by decide) fun ρ Z h => ?_
    refine none_seq h rfl (by decide +kernel) (by decide) fun ρ Z h => ?_
    refine none_seq h rfl (by decide +kernel) (by decide) fun ρ Z h => ?_
    refine none_seq h rfl (by decide +kernel) (by decide) fun ρ Z h => ?_
    refine none_seq h rfl (by decide +kernel) (by decide) fun ρ Z h => ?_
    refine none_seq h rfl (by decide +kernel) (by decide) fun ρ Z h => ?_
    refine none_1 h (by decide) fun ρ Z h => ?_
    refine none_2 h (by decide) fun ρ Z h => ?_
    refine none_3 h (by decide) fun ρ Z h => ?_
    refine none_4 h (by decide) fun ρ Z h => ?_
    obtain ⟨i, kv, l, L, hZ, hcZ, hi, rfl, l1, l2, l3, hL, hSi⟩ := h
    have ln := len_ref hi
    rw [List.length_map] at ln
    have hm : (0 : Int) < (L.length : Int) := by omega
    have hb := fmod_bd (i := x) (j := (L.length : Int)) hm
    simp! only [ln, mdl hm, idx_ref hi]
    refine wpO_atI hb.1 (by rw [List.length_map]; exact hb.2) fun d m => ?_
    obtain ⟨t, ht, rfl⟩ := List.mem_map.mp m
    rw [hZ, leave_pu0 hc rfl]
    exact ⟨⟨t, hL t ht, rfl⟩, rfl⟩
  obtain ⟨d, S', e, ⟨t, ht, rfl⟩, rfl⟩ := wpR_out key
  exact ⟨t, ht, e⟩
end Pg
end
section
set_option Elab.async false
set_option linter.all false
set_option maxRecDepth 100000
set_option maxHeartbeats 8000000
namespace Pg
open Ev
local macro_rules
  | `(tactic| simp! only [$as,*] $[$l]?) => `(tactic| simp only [wpB_cons, wpB_nil, wpS_set, wpS_setT, wpS_par, wpS_setI, wpS_expr, wpS_ret, wpS_ife, wpS_raise, wpS_try, wpS_aug, wpE_var, wpE_cst, wpE_tup, wpE_lst, wpE_dct0, wpE_bin, wpE_neg, wpE_not, wpE_and, wpE_or, wpE_cmp, wpE_cmp2, wpE_is, wpE_ife, wpE_idx, wpE_sl, wpE_call, wpE_blt, wpE_mth, wpE_isi, wpEs_nil, wpEs_cons, wpR_ok, wpR_ex, wpO_some, wpO_map, wpT_true, wpT_false, wpT_not, wpIfs_nil, wpIfs_one, getV_0, getV_s, List.set_cons_succ, List.set_cons_zero, g0_F, g0_isa, truth_non, truth_bl, truth_int, truth_tup, truth_lst, truth_fz, Option.map_some, Option.isSome_some, if_true, Bool.false_eq_true, if_false, Bool.not_true, Bool.not_false, isPart, setTg, setNames, bin_add, bin_sub, cmp_lt, cmp_gt, cmp_le, cmp_ge, cmp_eq, orD_some, cmp_ne, eq_int, eq_str, abs_int, tuple_seq, list_seq, seqOf_tup, seqOf_lst, seqOf_fz, seqOf_ref, int_bl, mdl, fdl, min2, max2, pu_non, pu_bl, pu_int, pu_str, pu_nil, pu_cons, pure_tup, Bool.and_self, Int.reduceLT, and_true, true_and, decide_true, decide_false, isC_b_non, isC_n_bl, isC_n_int, isC_b_int, isC_n_str, isC_b_str, isC_n_tup, isC_b_tup, isC_n_lst, isC_b_lst, isC_n_fz, isC_b_fz, isC_n_dct, isC_b_dct, isC_n_ref, isC_b_ref, isC_n_exc, isC_b_exc, isC_n_non, isC_true_true_true, isC_true_true_false, isC_true_false_true, isC_true_false_false, isC_false_true_true, isC_false_true_false, isC_false_false_true, isC_false_false_false, isTys_nil, isTys_c, isTy_exv, isTy_exc, isTy_non_int, isTy_non_str, isTy_non_tuple, isTy_non_list, isTy_non_dict, isTy_non_bool, isTy_bl_int, isTy_bl_str, isTy_bl_tuple, isTy_bl_list, isTy_bl_dict, isTy_bl_bool, isTy_int_int, isTy_int_str, isTy_int_tuple, isTy_int_list, isTy_int_dict, isTy_int_bool, isTy_str_int, isTy_str_str, isTy_str_tuple, isTy_str_list, isTy_str_dict, isTy_str_bool, isTy_tup_int, isTy_tup_str, isTy_tup_tuple, isTy_tup_list, isTy_tup_dict, isTy_tup_bool, isTy_lst_int, isTy_lst_str, isTy_lst_tuple, isTy_lst_list, isTy_lst_dict, isTy_lst_bool, isTy_fz_int, isTy_fz_str, isTy_fz_tuple, isTy_fz_list, isTy_fz_dict, isTy_fz_bool, isTy_dct_int, isTy_dct_str, isTy_dct_tuple, isTy_dct_list, isTy_dct_dict, isTy_dct_bool, Option.bind_some, settle_int, settle_str, settle_bl, settle_non, settle_ref, settle_fz, settle_exc, settle_tup, settle_lst, settle_dct, settles_nil, settles_cons, $as,*] $[$l]?)
variable {n : Nat} {S : Sto}
structure WI (S : Sto) (dv : D) (k : Nat) (ρ : Env) (Z : Sto) : Prop where
  ok : ∃ (rs : List Rw) (l : Sto) (u3 u4 u5 : Option D), (∀ r ∈ rs, r.ok) ∧ rs.length ≤ k ∧ (rs.map Rw.nm).Nodup ∧ Z = S ++ (.lst (rs.map Rw.d) :: .lst ((rs.map Rw.nm).map .str) :: l) ∧ Cl Z ∧ ρ = [some dv, some (.ref S.length), some (.ref (S.length + 1)), u3, u4, u5]
theorem any_body {ns : List Int} {dv : D} (hc : Cl S) (hl : ∀ l, bltE (S ++ l) .len [dv] = some (.int ns.length)) (hix0 : ∀ l k, k < ns.length → idxE (S ++ l) dv (.int (k : Nat)) = some (.int (ns.getD k 0))) :
    wpB (g0 (n + 2)) b__law_any_world (fun _ _ => False) (fun d S' => ∃ rs l, Wd rs ∧ d = wd rs ∧ S' = S ++ l) (fun _ _ => False) [some dv, none, none, none, none, none] S := by
    unfold b__law_any_world
    refine wp_then [some dv, some (.ref S.length), none, none, none, none] (S ++ [.lst []]) (fun Qn' q => by simp! only [wpB_nil]; exact q) ?_
    refine wp_then [some dv, some (.ref S.length), some (.ref (S.length + 1)), none, none, none] (S ++ [.lst [], .lst []]) (fun Qn' q => by simp! only [List.length_append, List.length_cons, List.length_nil, Nat.zero_add, Nat.reduceAdd, List.append_assoc, List.cons_append, List.nil_append, Nat.reduceLeDiff, Nat.reduceLT]; exact q) ?_
    obtain ⟨m, hm, hm0, hm1, hm2⟩ : ∃ m : Int, (if (if (ns.length : Int) - 1 > 0 then (ns.length : Int) - 1 else 0) < 24 then (if (ns.length : Int) - 1 > 0 then (ns.length : Int) - 1 else 0) else 24) = m ∧ 0 ≤ m ∧ m ≤ 24 ∧ m ≤ (if (ns.length : Int) - 1 > 0 then (ns.length : Int) - 1 else 0) := ⟨_, rfl, by split <;> (try split) <;> omega, by split <;> omega, by split <;> omega⟩
    rw [wpB_cons]
    refine wp_for (fun k ρ Z => WI S dv k ρ Z) ?_
    simp! only [hl, hm]
    refine ⟨_, none, items_r1 (by omega) (by omega), rng_settled, ⟨[], [], none, none, none, (fun _ h => nomatch h), by simp, by simp, rfl, ?_, rfl⟩, fun _ _ _ _ => trivial, ?_, ?_⟩
    · exact hc.app (by rfl)
    · rintro k y ρ Z hd ⟨rs, l, u3, u4, u5, h1, h2, h3, rfl, hcZ, rfl⟩
      obtain ⟨rfl, hk⟩ := rng_at hd
      have hkm : (k : Int) < m := by omega
      have hkn : k + 1 < ns.length := by split at hm2 <;> omega
      change wpB (g0 (n + 2)) [_, _, .ife _ [_, _] []] _ _ _ [some dv, some (.ref S.length), some (.ref (S.length + 1)), some (.int k), u4, u5] _
      obtain ⟨xs, hx, _, es⟩ := c__law_stream (n := n + 1) (m := 8) (c := ns.getD (k + 1) 0) (by decide) hcZ
      have hix : ∀ l, idxE (S ++ l) dv (.int ((k : Int) + 1)) = some (.int (ns.getD (k + 1) 0)) := fun l => hix0 l (k + 1) hkn
      simp only [Int.cast_ofNat_Int] at es
      have hZ0 : (S ++ (D.lst (rs.map Rw.d) :: .lst ((rs.map Rw.nm).map .str) :: l))[S.length]? = some (.lst (rs.map Rw.d)) := by simp
      have hZ1 : (S ++ (D.lst (rs.map Rw.d) :: .lst ((rs.map Rw.nm).map .str) :: l))[S.length + 1]? = some (.lst ((rs.map Rw.nm).map .str)) := by rw [get_app]; rfl
      have hlen : (S ++ (D.lst (rs.map Rw.d) :: .lst ((rs.map Rw.nm).map .str) :: l)).length = S.length + 2 + l.length := by simp; omega
      refine wp_then [some dv, some (.ref S.length), some (.ref (S.length + 1)), some (.int k), some (.ref (S.length + 2 + l.length)), u5] (S ++ (.lst (rs.map Rw.d) :: .lst ((rs.map Rw.nm).map .str) :: (l ++ [.lst (xs.map .int)]))) (fun Qn' q => ?_) ?_
      · simp! only [hix, es, settles_pure _ _ (ints_pure _), hlen]
        simpa using q
      have hcZ1 : Cl (S ++ (D.lst (rs.map Rw.d) :: .lst ((rs.map Rw.nm).map .str) :: (l ++ [.lst (xs.map .int)]))) := by
        have := hcZ.lst (ints_pure xs)
        simpa using this
      have hj : ∀ (A B : D) (ys : List D), (S ++ (A :: B :: (l ++ [D.lst ys])))[S.length + 2 + l.length]? = some (.lst ys) := fun A B ys => by
        rw [show S.length + 2 + l.length = S.length + (l.length + 1 + 1) by omega, get_app, List.getElem?_cons_succ, List.getElem?_cons_succ]; simp
      have hset : ∀ (A B : D) (ys : List D) (o : D), (S ++ (A :: B :: (l ++ [D.lst ys]))).set (S.length + 2 + l.length) o = S ++ (A :: B :: (l ++ [o])) := fun A B ys o => by
        rw [show S.length + 2 + l.length = S.length + (l.length + 1 + 1) by omega, set_app, List.set_cons_succ, List.set_cons_succ, List.set_append_right _ _ (Nat.le_refl _)]; simp
      obtain ⟨x1, xs1, f1⟩ := c__law_take (n := n + 1) hcZ1 (hj _ _ _)
      rw [hset] at f1
      have hcZ2 : Cl (S ++ (D.lst (rs.map Rw.d) :: .lst ((rs.map Rw.nm).map .str) :: (l ++ [.lst (xs1.map .int)]))) := by
        have := hcZ1.ints (i := S.length + 2 + l.length) xs1
        rwa [hset] at this
      obtain ⟨s, hs, fs⟩ := c__law_name (n := n + 1) (k := k) (x := x1) (by omega) hcZ2
      refine wp_then [some dv, some (.ref S.length), some (.ref (S.length + 1)), some (.int k), some (.ref (S.length + 2 + l.length)), some (.str s)] (S ++ (.lst (rs.map Rw.d) :: .lst ((rs.map Rw.nm).map .str) :: (l ++ [.lst (xs1.map .int)]))) (fun Qn' q => by simp! only [f1, fs]; exact q) ?_
      have hn1 : (S ++ (D.lst (rs.map Rw.d) :: .lst ((rs.map Rw.nm).map .str) :: (l ++ [.lst (xs1.map .int)])))[S.length + 1]? = some (.lst ((rs.map Rw.nm).map .str)) := by rw [get_app]; rfl
      by_cases hin : s ∈ rs.map Rw.nm
      · refine wp_ifF (fun Q' X' q => by simp! only [cmp_nin, in_names hn1, hin]; exact q) ?_
        rw [wpB_nil, wpB_nil]
        exact ⟨rs, l ++ [.lst (xs1.map .int)], _, _, _, h1, by omega, h3, rfl, hcZ2, rfl⟩
      · refine wp_ifT (fun Q' X' q => by simp! only [cmp_nin, in_names hn1, hin]; exact q) ?_
        have hcZ3 : Cl (S ++ (D.lst (rs.map Rw.d) :: .lst ((rs.map Rw.nm).map .str ++ [.str s]) :: (l ++ [.lst (xs1.map .int)]))) := by
          have e : (rs.map Rw.nm).map D.str ++ [.str s] = (rs.map Rw.nm ++ [s]).map D.str := by simp
          have := hcZ2.set (i := S.length + 1) (d := .lst ((rs.map Rw.nm).map .str ++ [.str s])) (by unfold D.under; rw [e]; exact pures_under _ _ (strs_pure _))
          rw [set_app] at this
          exact this
        have hll : ((rs.map Rw.nm).map D.str).length < 16777216 := by simp; omega
        refine wp_then [some dv, some (.ref S.length), some (.ref (S.length + 1)), some (.int k), some (.ref (S.length + 2 + l.length)), some (.str s)] (S ++ (.lst (rs.map Rw.d) :: .lst ((rs.map Rw.nm).map .str ++ [.str s]) :: (l ++ [.lst (xs1.map .int)]))) (fun Qn' q => by
          simp! only [get_app, get_app0, set_app, set_app0, mutOf_r, listOf_r, dictOf_r, idx_r, idx_l, idx_f, idx_tup, mth_append, mth_pop, rcv_append, rcv_pop, rcv_extend, atI_0, atI_1, atI_2, atI_3, atI_4, add_rl, add_lr, add_ll, List.getElem?_cons_zero, List.getElem?_cons_succ, hll]; exact q) ?_
        obtain ⟨r, xs2, hr, hrn, fr⟩ := c__law_any_row (n := n) hs hcZ3 (hj _ _ _)
        rw [hset] at fr
        have hcZ4 : Cl (S ++ (D.lst (rs.map Rw.d) :: .lst ((rs.map Rw.nm).map .str ++ [.str s]) :: (l ++ [.lst (xs2.map .int)]))) := by
          have := hcZ3.ints (i := S.length + 2 + l.length) xs2
          rwa [hset] at this
        have hl2 : (rs.map Rw.d).length < 16777216 := by simp; omega
        simp! only [get_app, get_app0, set_app, set_app0, mutOf_r, listOf_r, dictOf_r, idx_r, idx_l, idx_f, idx_tup, mth_append, mth_pop, rcv_append, rcv_pop, rcv_extend, atI_0, atI_1, atI_2, atI_3, atI_4, add_rl, add_lr, add_ll, List.getElem?_cons_zero, List.getElem?_cons_succ, fr, hl2, rw_settle]
        refine ⟨rs ++ [r], l ++ [.lst (xs2.map .int)], _, _, _, fun q m => ?_, by simp; omega, ?_, by simp [hrn], ?_, rfl⟩
        · rcases List.mem_append.mp m with m | m
          · exact h1 q m
          · have : q = r := by simpa using m
            subst this; exact hr
        · rw [List.map_append]
          refine List.nodup_append.mpr ⟨h3, by simp, fun a ha b hb e => ?_⟩
          have : b = r.nm := by simpa using hb
          subst this; subst e
          rw [hrn] at ha
          exact hin ha
        · have e : rs.map Rw.d ++ [r.d] = (rs ++ [r]).map Rw.d := by simp
          have := hcZ4.set (i := S.length) (d := .lst (rs.map Rw.d ++ [r.d])) (by unfold D.under; rw [e]; exact pures_under _ _ (rws_pure _))
          rw [set_app0] at this
          exact this
    · rintro ρ Z ⟨rs, l, u3, u4, u5, h1, h2, h3, rfl, hcZ, rfl⟩
      rw [rng_len] at h2
      simp! only [get_app, get_app0, set_app, set_app0, mutOf_r, listOf_r, dictOf_r, idx_r, idx_l, idx_f, idx_tup, mth_append, mth_pop, rcv_append, rcv_pop, rcv_extend, atI_0, atI_1, atI_2, atI_3, atI_4, add_rl, add_lr, add_ll, List.getElem?_cons_zero, List.getElem?_cons_succ]
      exact ⟨rs, _, ⟨h1, by omega, h3⟩, rfl, rfl⟩
theorem c__law_any_world {ns : List Int} (hc : Cl S) : ∃ rs, Wd rs ∧ F (n + 3) 21 [.lst (ns.map .int)] S = some (.ok (wd rs) S) := by
  have key : wpR (fun a S' => ∃ rs, Wd rs ∧ a = wd rs ∧ S' = S) (fun _ _ => False) (F (n + 3) 21 [.lst (ns.map .int)] S) := by
    refine e__law_any_world (by simp only [settle_int, settle_str, settle_bl, settle_non, settle_ref, settle_fz, settle_exc, settle_tup, settle_lst, settle_dct, settles_nil, settles_cons, settles_pure _ _ (ints_pure ns)]; rfl) ?_
    have hc1 : Cl (S ++ [D.lst (ns.map .int)]) := hc.lst (ints_pure ns)
    have hg : ∀ l, (S ++ [D.lst (ns.map .int)] ++ l)[S.length]? = some (.lst (ns.map .int)) := fun l => by simp
    have hl : ∀ l, bltE (S ++ [D.lst (ns.map .int)] ++ l) .len [.ref S.length] = some (.int ns.length) := fun l => by rw [len_ref (hg l), List.length_map]
    have hi : ∀ l k, k < ns.length → idxE (S ++ [D.lst (ns.map .int)] ++ l) (.ref S.length) (.int (k : Nat)) = some (.int (ns.getD k 0)) := fun l k hk => by
      rw [idx_ref (hg l), atI_nat]
      simp [hk]
    have ab := any_body (n := n) hc1 hl hi
    refine wpB_mono ab (fun _ _ (z : False) => z.elim) (fun d S' h => ?_) (fun _ _ (z : False) => z.elim)
    obtain ⟨rs, l, w, rfl, rfl⟩ := h
    rw [List.append_assoc, leave_pu0 hc (wd_pure rs)]
    exact ⟨rs, w, rfl, rfl⟩
  obtain ⟨a, S', e, rs, h1, rfl, rfl⟩ := wpR_out key
  exact ⟨rs, h1, e⟩
end Pg
end
section
set_option Elab.async false
set_option linter.all false
set_option maxRecDepth 100000
set_option maxHeartbeats 8000000
namespace Pg
open Ev
local macro_rules
  | `(tactic| simp! only [$as,*] $[$l]?) => `(tactic| simp only [wpB_cons, wpB_nil, wpS_set, wpS_setT, wpS_par, wpS_setI, wpS_expr, wpS_ret, wpS_ife, wpS_raise, wpS_try, wpS_aug, wpE_var, wpE_cst, wpE_tup, wpE_lst, wpE_dct0, wpE_bin, wpE_neg, wpE_not, wpE_and, wpE_or, wpE_cmp, wpE_cmp2, wpE_is, wpE_ife, wpE_idx, wpE_sl, wpE_call, wpE_blt, wpE_mth, wpE_isi, wpEs_nil, wpEs_cons, wpR_ok, wpR_ex, wpO_some, wpO_map, wpT_true, wpT_false, wpT_not, wpIfs_nil, wpIfs_one, getV_0, getV_s, List.set_cons_succ, List.set_cons_zero, g0_F, g0_isa, truth_non, truth_bl, truth_int, truth_tup, truth_lst, truth_fz, Option.map_some, Option.isSome_some, if_true, Bool.false_eq_true, if_false, Bool.not_true, Bool.not_false, isPart, setTg, setNames, bin_add, bin_sub, cmp_lt, cmp_gt, cmp_le, cmp_ge, cmp_eq, orD_some, cmp_ne, eq_int, eq_str, abs_int, tuple_seq, list_seq, seqOf_tup, seqOf_lst, seqOf_fz, seqOf_ref, int_bl, mdl, fdl, min2, max2, pu_non, pu_bl, pu_int, pu_str, pu_nil, pu_cons, pure_tup, Bool.and_self, Int.reduceLT, and_true, true_and, decide_true, decide_false, isC_b_non, isC_n_bl, isC_n_int, isC_b_int, isC_n_str, isC_b_str, isC_n_tup, isC_b_tup, isC_n_lst, isC_b_lst, isC_n_fz, isC_b_fz, isC_n_dct, isC_b_dct, isC_n_ref, isC_b_ref, isC_n_exc, isC_b_exc, isC_n_non, isC_true_true_true, isC_true_true_false, isC_true_false_true, isC_true_false_false, isC_false_true_true, isC_false_true_false, isC_false_false_true, isC_false_false_false, isTys_nil, isTys_c, isTy_exv, isTy_exc, isTy_non_int, isTy_non_str, isTy_non_tuple, isTy_non_list, isTy_non_dict, isTy_non_bool, isTy_bl_int, isTy_bl_str, isTy_bl_tuple, isTy_bl_list, isTy_bl_dict, isTy_bl_bool, isTy_int_int, isTy_int_str, isTy_int_tuple, isTy_int_list, isTy_int_dict, isTy_int_bool, isTy_str_int, isTy_str_str, isTy_str_tuple, isTy_str_list, isTy_str_dict, isTy_str_bool, isTy_tup_int, isTy_tup_str, isTy_tup_tuple, isTy_tup_list, isTy_tup_dict, isTy_tup_bool, isTy_lst_int, isTy_lst_str, isTy_lst_tuple, isTy_lst_list, isTy_lst_dict, isTy_lst_bool, isTy_fz_int, isTy_fz_str, isTy_fz_tuple, isTy_fz_list, isTy_fz_dict, isTy_fz_bool, isTy_dct_int, isTy_dct_str, isTy_dct_tuple, isTy_dct_list, isTy_dct_dict, isTy_dct_bool, Option.bind_some, settle_int, settle_str, settle_bl, settle_non, settle_ref, settle_fz, settle_exc, settle_tup, settle_lst, settle_dct, settles_nil, settles_cons, $as,*] $[$l]?)
variable {n : Nat} {S : Sto}
theorem read_or {t : PySem.Str} (hl : t.length ≤ 16750000) (hc : Cl S) : (∃ rs, Wd rs ∧ wT rs = t ∧ worldO t = some (rs.map Rw.d) ∧ F (n + 8) 14 [.str t] S = some (.ok (wd rs) S)) ∨ F (n + 8) 14 [.str t] S = some (.ex 4 S) := by
  have h := c_read (n := n) hl hc
  cases e : F (n + 8) 14 [.str t] S with
  | none => rw [e] at h; exact h.elim
  | some r =>
    rw [e] at h
    cases r with
    | ok d S' =>
      obtain ⟨rfl, rs, w, h1, h2, rfl⟩ := h
      exact .inl ⟨rs, w, h1, h2, rfl⟩
    | ex c S' =>
      obtain ⟨rfl, rfl, _⟩ := h
      exact .inr rfl
theorem read_bad {t : PySem.Str} (hb : Bad t) (hc : Cl S) : F (n + 8) 14 [.str t] S = some (.ex 4 S) := by
  rcases read_or (n := n) (t := t) (by have := hb.len; omega) hc with ⟨rs, w, h1, h2, _⟩ | h
  · exact absurd h1 (hb.no rs w h2)
  · exact h
theorem read_no {d : D} (hst : d.settled = true) (hty : isTys (isaX 5) S d [.str] = some false) (hc : Cl S) : F (n + 8) 14 [d] S = some (.ex 4 S) := by
  refine wpR_isX (e_read_world (by simp only [settle_int, settle_str, settle_bl, settle_non, settle_ref, settle_fz, settle_exc, settle_tup, settle_lst, settle_dct, settles_nil, settles_cons, settle_settled _ _ hst]; rfl) ?_)
  unfold b_read_world
  simp only [wpB_cons, wpS_ife, wpE_not, wpE_isi, wpE_var, getV_0, wpO_some, g0_isa, hty, truth_bl, Bool.not_false, wpT_true]
  simp! only [leave_int0 hc, leave_int hc, leave_bl0 hc, leave_bl hc, leave_str0 hc, leave_str hc, leave_non0 hc, leave_non hc, leave_tup0 hc, leave_tup hc, takeX hc, takeX0 hc]
theorem refused {t t' : D} {l : Sto} (hs : settles [t] S = ([t'], S ++ l)) (hst : t'.settled = true) (hm : F (n + 8) 14 [t'] (S ++ l) = some (.ex 4 (S ++ l))) (hc : Cl S) : F (n + 9) 25 [t] S = some (.ok (.bl true) S) := by
  refine wpR_is (e__law_refused hs ?_)
  unfold b__law_refused
  have i0 : isaX 5 4 (.cls 0) = true := by decide +kernel
  have i1 : isaX 5 4 (.cls 1) = false := by decide +kernel
  have i2 : isaX 5 4 (.cls 2) = false := by decide +kernel
  have i3 : isaX 5 4 (.cls 3) = false := by decide +kernel
  have i4 : isaX 5 4 (.cls 4) = true := by decide +kernel
  have i5 : isaX 5 4 .valueError = true := by decide +kernel
  simp! only [hm, i0, i1, i2, i3, i4, i5, leave_int0 hc, leave_int hc, leave_bl0 hc, leave_bl hc, leave_str0 hc, leave_str hc, leave_non0 hc, leave_non hc, leave_tup0 hc, leave_tup hc, takeX hc, takeX0 hc]
theorem c__law_told {t : PySem.Str} (hl : t.length ≤ 16750000) (hc : Cl S) : F (n + 10) 26 [.str t] S = some (.ok (.bl true) S) := by
  refine wpR_is (e__law_told (by simp only [settle_int, settle_str, settle_bl, settle_non, settle_ref, settle_fz, settle_exc, settle_tup, settle_lst, settle_dct, settles_nil, settles_cons]; rfl) ?_)
  unfold b__law_told
  have i4 : isaX 5 4 (.cls 4) = true := by decide +kernel
  rcases read_or (n := n + 1) hl hc with ⟨rs, w, rfl, h2, h⟩ | h
  · have t1 := c__law_world_text (n := n + 6) w.ok w.len hc
    have eq1 : eqE S (wd rs) (wd rs) = some true := eq_refl (wd_pure rs) (by have := wd_depth rs; omega)
    have mk := c_made_world (n := n + 4) (S := S) (dv := wd rs) (its := rs.map Rw.d) (.inl rfl) (fun x m => .inl (.inl (pures_mem (rws_pure rs) m))) (fun x m s e => by
      obtain ⟨r, hr, rfl⟩ := List.mem_map.mp m
      have := (w.ok r hr).nm.hi
      have e2 : att r.d 1 = .str r.nm := by cases r <;> rfl
      rw [e2] at e
      cases e
      omega) hc (pure_settled _ (wd_pure rs))
    rw [if_pos w.good] at mk
    have mk' : F (n + 9) 7 [wd rs] S = some (.ok (wd rs) S) := mk
    simp! only [wpS_tryC, h, settles_rw, t1, mk', eq1, leave_int0 hc, leave_int hc, leave_bl0 hc, leave_bl hc, leave_str0 hc, leave_str hc, leave_non0 hc, leave_non hc, leave_tup0 hc, leave_tup hc, takeX hc, takeX0 hc]
  · have hr := refused (n := n) (S := S) (t := .str t) (t' := .str t) (l := []) (by simp only [settle_int, settle_str, settle_bl, settle_non, settle_ref, settle_fz, settle_exc, settle_tup, settle_lst, settle_dct, settles_nil, settles_cons, List.append_nil]) rfl (by
      rw [List.append_nil]
      exact (read_or (n := n) hl hc).elim (fun ⟨rs, w, q1, q2, q3⟩ => by
        exfalso
        have z := c_read_world (n := n + 1) w hc
        rw [q1, h] at z; cases z) id) hc
    simp! only [wpS_tryC, h, i4, hr, leave_int0 hc, leave_int hc, leave_bl0 hc, leave_bl hc, leave_str0 hc, leave_str hc, leave_non0 hc, leave_non hc, leave_tup0 hc, leave_tup hc, takeX hc, takeX0 hc]
end Pg
end
section
set_option Elab.async false
set_option linter.all false
set_option maxRecDepth 100000
set_option maxHeartbeats 8000000
namespace Pg
open Ev
local macro_rules
  | `(tactic| simp! only [$as,*] $[$l]?) => `(tactic| simp only [wpB_cons, wpB_nil, wpS_set, wpS_setT, wpS_par, wpS_setI, wpS_expr, wpS_ret, wpS_ife, wpS_raise, wpS_try, wpS_aug, wpE_var, wpE_cst, wpE_tup, wpE_lst, wpE_dct0, wpE_bin, wpE_neg, wpE_not, wpE_and, wpE_or, wpE_cmp, wpE_cmp2, wpE_is, wpE_ife, wpE_idx, wpE_sl, wpE_call, wpE_blt, wpE_mth, wpE_isi, wpEs_nil, wpEs_cons, wpR_ok, wpR_ex, wpO_some, wpO_map, wpT_true, wpT_false, wpT_not, wpIfs_nil, wpIfs_one, getV_0, getV_s, List.set_cons_succ, List.set_cons_zero, g0_F, g0_isa, truth_non, truth_bl, truth_int, truth_tup, truth_lst, truth_fz, Option.map_some, Option.isSome_some, if_true, Bool.false_eq_true, if_false, Bool.not_true, Bool.not_false, isPart, setTg, setNames, bin_add, bin_sub, cmp_lt, cmp_gt, cmp_le, cmp_ge, cmp_eq, orD_some, cmp_ne, eq_int, eq_str, abs_int, tuple_seq, list_seq, seqOf_tup, seqOf_lst, seqOf_fz, seqOf_ref, int_bl, mdl, fdl, min2, max2, pu_non, pu_bl, pu_int, pu_str, pu_nil, pu_cons, pure_tup, Bool.and_self, Int.reduceLT, and_true, true_and, decide_true, decide_false, isC_b_non, isC_n_bl, isC_n_int, isC_b_int, isC_n_str, isC_b_str, isC_n_tup, isC_b_tup, isC_n_lst, isC_b_lst, isC_n_fz, isC_b_fz, isC_n_dct, isC_b_dct, isC_n_ref, isC_b_ref, isC_n_exc, isC_b_exc, isC_n_non, isC_true_true_true, isC_true_true_false, isC_true_false_true, isC_true_false_false, isC_false_true_true, isC_false_true_false, isC_false_false_true, isC_false_false_false, isTys_nil, isTys_c, isTy_exv, isTy_exc, isTy_non_int, isTy_non_str, isTy_non_tuple, isTy_non_list, isTy_non_dict, isTy_non_bool, isTy_bl_int, isTy_bl_str, isTy_bl_tuple, isTy_bl_list, isTy_bl_dict, isTy_bl_bool, isTy_int_int, isTy_int_str, isTy_int_tuple, isTy_int_list, isTy_int_dict, isTy_int_bool, isTy_str_int, isTy_str_str, isTy_str_tuple, isTy_str_list, isTy_str_dict, isTy_str_bool, isTy_tup_int, isTy_tup_str, isTy_tup_tuple, isTy_tup_list, isTy_tup_dict, isTy_tup_bool, isTy_lst_int, isTy_lst_str, isTy_lst_tuple, isTy_lst_list, isTy_lst_dict, isTy_lst_bool, isTy_fz_int, isTy_fz_str, isTy_fz_tuple, isTy_fz_list, isTy_fz_dict, isTy_fz_bool, isTy_dct_int, isTy_dct_str, isTy_dct_tuple, isTy_dct_list, isTy_dct_dict, isTy_dct_bool, Option.bind_some, settle_int, settle_str, settle_bl, settle_non, settle_ref, settle_fz, settle_exc, settle_tup, settle_lst, settle_dct, settles_nil, settles_cons, $as,*] $[$l]?)
variable {n : Nat} {S : Sto}
theorem sl_any {x : PySem.Str} {lo hi : D} (h : x.length ≤ 16777216) (h1 : isPart lo = true) (h2 : isPart hi = true) : ∃ y : PySem.Str, y.length ≤ x.length ∧ ∀ S, slE S (.str x) lo hi = some (.str y) := by
  have key : ∀ i j : Nat, (⟨(cut x.cps.toList i j).toArray⟩ : PySem.Str).length ≤ x.length := fun i j => by
    rw [TL.len_tl, TL.len_tl]
    show (cut x.cps.toList i j).length ≤ x.cps.toList.length
    unfold cut
    rw [List.length_take, List.length_drop]
    omega
  have ex : ∀ (d : D) (m k : Nat), isPart d = true → ∃ i, sIx m k d = some i := fun d m k hd => by
    cases d with
    | non => exact ⟨k, rfl⟩
    | int v => exact ⟨_, rfl⟩
    | _ => cases hd
  obtain ⟨i, ei⟩ := ex lo x.length 0 h1
  obtain ⟨j, ej⟩ := ex hi x.length x.length h2
  refine ⟨⟨(cut x.cps.toList i j).toArray⟩, key i j, fun S => ?_⟩
  show (match sIx x.length 0 lo, sIx x.length x.length hi with
    | some i, some j => if x.length ≤ 16777216 then some (D.str ⟨(cut x.cps.toList i j).toArray⟩) else none
    | _, _ => none) = _
  rw [ei, ej]
  simp only
  rw [if_pos h]
theorem str_at {x : PySem.Str} {i : Int} (h : x.length ≤ 16777216) (h0 : 0 ≤ i) (h1 : i < x.length) : ∃ y : PySem.Str, y.length = 1 ∧ ∀ S, idxE S (.str x) (.int i) = some (.str y) := by
  obtain ⟨c, e, m⟩ := atI_ok (xs := TL.tl x) h0 (by rw [← TL.len_tl]; exact h1)
  refine ⟨⟨#[c]⟩, rfl, fun S => ?_⟩
  show (if x.length ≤ 16777216 then (Ev.atI (TL.tl x) i).map (fun c => D.str ⟨#[c]⟩) else none) = _
  rw [if_pos h, e]; rfl
theorem sgn_len : bltE S .len [.str " :;-_, 0123456789!#$&'()*+./<=>?@ABCDEFGHIJKLMNOPQRSTUVWXYZ[]^`abcdefghijklmnopqrstuvwxyz{|}~\n"] = some (.int 94) := by
  rw [len_str (by decide +kernel)]
  have : (" :;-_, 0123456789!#$&'()*+./<=>?@ABCDEFGHIJKLMNOPQRSTUVWXYZ[]^`abcdefghijklmnopqrstuvwxyz{|}~\n" : PySem.Str).length = 94 := by decide +kernel
  rw [this]; rfl
theorem sgn_at {i : Int} (h0 : 0 ≤ i) (h1 : i < 94) : ∃ y : PySem.Str, y.length = 1 ∧ ∀ S, idxE S (.str " :;-_, 0123456789!#$&'()*+./<=>?@ABCDEFGHIJKLMNOPQRSTUVWXYZ[]^`abcdefghijklmnopqrstuvwxyz{|}~\n") (.int i) = some (.str y) := str_at (by decide +kernel) h0 (by
  have : (" :;-_, 0123456789!#$&'()*+./<=>?@ABCDEFGHIJKLMNOPQRSTUVWXYZ[]^`abcdefghijklmnopqrstuvwxyz{|}~\n" : PySem.Str).length = 94 := by decide +kernel
  rw [this]; exact h1)
theorem add_any {x y : PySem.Str} (h : x.length + y.length ≤ 16777216) : ∃ z : PySem.Str, z.length = x.length + y.length ∧ ∀ S, binE S .add (.str x) (.str y) = some (.str z) :=
  ⟨x ++ y, by rw [TL.len_tl, TL.tl_append, List.length_append, ← TL.len_tl, ← TL.len_tl], fun S => add_str h⟩
theorem leave_sp {i : Nat} {xs : List Int} {t : PySem.Str} (hc : Cl S) : leave S.length (.str t) (S.set i (.lst (xs.map .int))) = some (.ok (.str t) (S.set i (.lst (xs.map .int)))) := by
  exact leave_si0 hc rfl
theorem c__law_spoiled {i : Nat} {xs : List Int} {t : PySem.Str} (ht : t.length ≤ 5000) (hc : Cl S) (hS : S[i]? = some (.lst (xs.map .int))) :
    ∃ (u : PySem.Str) (xs' : List Int), u.length ≤ 20000 ∧ F (n + 2) 27 [.str t, .ref i] S = some (.ok (.str u) (S.set i (.lst (xs'.map .int)))) := by
  have key : wpR (fun d S' => ∃ (u : PySem.Str) (xs' : List Int), u.length ≤ 20000 ∧ d = .str u ∧ S' = S.set i (.lst (xs'.map .int))) (fun _ _ => False) (F (n + 2) 27 [.str t, .ref i] S) := by
    refine e__law_spoiled (by simp only [settle_int, settle_str, settle_bl, settle_non, settle_ref, settle_fz, settle_exc, settle_tup, settle_lst, settle_dct, settles_nil, settles_cons]; rfl) ?_
    unfold b__law_spoiled
    obtain ⟨x1, xs1, f1⟩ := c__law_take (n := n) hc hS
    have hc1 : Cl (S.set i (.lst (xs1.map .int))) := hc.ints xs1
    obtain ⟨x2, xs2, f2⟩ := c__law_take (n := n) hc1 (get_set hS)
    rw [List.set_set] at f2
    have hc2 : Cl (S.set i (.lst (xs2.map .int))) := hc.ints xs2
    obtain ⟨x3, xs3, f3⟩ := c__law_take (n := n) hc2 (get_set hS)
    rw [List.set_set] at f3
    have hc3 : Cl (S.set i (.lst (xs3.map .int))) := hc.ints xs3
    obtain ⟨x4, xs4, f4⟩ := c__law_take (n := n) hc3 (get_set hS)
    rw [List.set_set] at f4
    have hlt : ∀ {S}, bltE S .len [.str t] = some (.int t.length) := fun {S} => len_str (by omega)
    have m1 : (0 : Int) < (t.length : Int) + 1 := by omega
    have b1 := fmod_bd (i := x1) (j := (t.length : Int) + 1) m1
    have b2 := fmod_bd (i := x2) (j := 94) (by decide)
    have b3 := fmod_bd (i := x3) (j := 6) (by decide)
    have b4 := fmod_bd (i := x4) (j := 9) (by decide)
    obtain ⟨sg, sg1, sg2⟩ := sgn_at b2.1 b2.2
    simp! only [f1, hlt, mdl m1, f2, sgn_len, sg2, f3, f4]
    generalize x1.fmod ((t.length : Int) + 1) = at_ at b1 ⊢
    generalize x3.fmod 6 = way at b3 ⊢
    generalize x4.fmod 9 = far at b4 ⊢
    have ht2 : t.length ≤ 16777216 := by omega
    obtain ⟨s1, l1, e1⟩ := sl_any (x := t) (lo := .non) (hi := .int at_) ht2 rfl rfl
    obtain ⟨s2, l2, e2⟩ := sl_any (x := t) (lo := .int at_) (hi := .non) ht2 rfl rfl
    obtain ⟨s3, l3, e3⟩ := sl_any (x := t) (lo := .int (at_ + 1)) (hi := .non) ht2 rfl rfl
    obtain ⟨s4, l4, e4⟩ := sl_any (x := t) (lo := .int at_) (hi := .int (at_ + 2)) ht2 rfl rfl
    obtain ⟨s5, l5, e5⟩ := sl_any (x := s4) (lo := .int 1) (hi := .non) (by omega) rfl rfl
    obtain ⟨s6, l6, e6⟩ := sl_any (x := s4) (lo := .non) (hi := .int 1) (by omega) rfl rfl
    obtain ⟨s7, l7, e7⟩ := sl_any (x := t) (lo := .int (at_ + 2)) (hi := .non) ht2 rfl rfl
    obtain ⟨s8, l8, e8⟩ := sl_any (x := t) (lo := .non) (hi := .int (at_ + (1 + far))) ht2 rfl rfl
    obtain ⟨s9, l9, e9⟩ := sl_any (x := t) (lo := .int (at_ + (1 + far))) (hi := .non) ht2 rfl rfl
    obtain ⟨a1, k1, g1⟩ := add_any (x := s1) (y := sg) (by omega)
    obtain ⟨a2, k2, g2⟩ := add_any (x := a1) (y := s2) (by omega)
    obtain ⟨a3, k3, g3⟩ := add_any (x := a1) (y := s3) (by omega)
    obtain ⟨a4, k4, g4⟩ := add_any (x := s1) (y := s5) (by omega)
    obtain ⟨a5, k5, g5⟩ := add_any (x := a4) (y := s6) (by omega)
    obtain ⟨a6, k6, g6⟩ := add_any (x := a5) (y := s7) (by omega)
    obtain ⟨a7, k7, g7⟩ := add_any (x := s8) (y := s2) (by omega)
    obtain ⟨a8, k8, g8⟩ := add_any (x := s1) (y := s9) (by omega)
    by_cases w1 : way < 2
    · simp! only [w1, e1, e2, g1, g2]
      exact wpR_eq (leave_sp hc) ⟨a2, xs4, by omega, rfl, rfl⟩
    by_cases w2 : way = 2
    · simp! only [decide_eq_false w1, decide_eq_true w2, e1, e3, g1, g3]
      exact wpR_eq (leave_sp hc) ⟨a3, xs4, by omega, rfl, rfl⟩
    by_cases w3 : way = 3
    · simp! only [decide_eq_false w1, decide_eq_false w2, decide_eq_true w3, e1, e4, e5, e6, e7, g4, g5, g6]
      exact wpR_eq (leave_sp hc) ⟨a6, xs4, by omega, rfl, rfl⟩
    by_cases w4 : way = 4
    · simp! only [decide_eq_false w1, decide_eq_false w2, decide_eq_false w3, decide_eq_true w4, e8, e2, g7]
      exact wpR_eq (leave_sp hc) ⟨a7, xs4, by omega, rfl, rfl⟩
    · simp! only [decide_eq_false w1, decide_eq_false w2, decide_eq_false w3, decide_eq_false w4, e1, e9, g8]
      exact wpR_eq (leave_sp hc) ⟨a8, xs4, by omega, rfl, rfl⟩
  obtain ⟨d, S', e, u, xs', h1, rfl, rfl⟩ := wpR_out key
  exact ⟨u, xs', h1, e⟩
end Pg
end
section
set_option Elab.async false
set_option linter.all false
set_option maxRecDepth 100000
set_option maxHeartbeats 8000000
namespace Ev
section
variable {g : G} {ρ : Env} {S : Sto} {Q : D → Sto → Prop} {X : Nat → Sto → Prop} {Qn : Env → Sto → Prop}
/-- for over items that hold lists of their own -/
structure ForSOk (g : G) (i : Nat) (k : ItK) (body : List PS) (Qn : Env → Sto → Prop) (Q : D → Sto → Prop) (X : Nat → Sto → Prop) (P : Nat → Env → Sto → Prop) (ρ : Env) (ds : List D) (S1 : Dep (g, i, k, body, Qn, Q, X, P, ρ) Sto) : Prop where
  ok : ∃ its lk, itemsOf S1 k ds = some (its, lk) ∧ P 0 ρ S1 ∧ (∀ k ρ S, P k ρ S → stays lk S) ∧ (∀ k d ρ S, its[k]? = some d → P k ρ S → wpB g body (fun ρ S => P (k + 1) ρ S) Q X (ρ.set i (some (settle d S).1)) (settle d S).2) ∧ ∀ ρ S, P its.length ρ S → Qn ρ S
theorem wp_forS (P : Nat → Env → Sto → Prop) {i : Nat} {k : ItK} {es : List PE} {body : List PS} (h : wpEs g es (fun ds S1 => ForSOk g i k body Qn Q X P ρ ds S1) X ρ S) :
    wpS g (.for_ (.nm i) k es body) Qn Q X ρ S := by
  unfold wpS
  rw [execS, wpF_bnd]
  refine wpR_mono h (fun ds S1 ⟨its, lk, e, h0, hk, step, fin⟩ => ?_) fun _ _ z => z
  rw [e]
  exact wp_forL its P hk (fun k d ρ S hd p => step k d ρ S hd p) fin ρ S1 h0
end
end Ev
namespace Pg
open Ev
local macro_rules
  | `(tactic| simp! only [$as,*] $[$l]?) => `(tactic| simp only [wpB_cons, wpB_nil, wpS_set, wpS_setT, wpS_par, wpS_setI, wpS_expr, wpS_ret, wpS_ife, wpS_raise, wpS_try, wpS_aug, wpE_var, wpE_cst, wpE_tup, wpE_lst, wpE_dct0, wpE_bin, wpE_neg, wpE_not, wpE_and, wpE_or, wpE_cmp, wpE_cmp2, wpE_is, wpE_ife, wpE_idx, wpE_sl, wpE_call, wpE_blt, wpE_mth, wpE_isi, wpEs_nil, wpEs_cons, wpR_ok, wpR_ex, wpO_some, wpO_map, wpT_true, wpT_false, wpT_not, wpIfs_nil, wpIfs_one, getV_0, getV_s, List.set_cons_succ, List.set_cons_zero, g0_F, g0_isa, truth_non, truth_bl, truth_int, truth_tup, truth_lst, truth_fz, Option.map_some, Option.isSome_some, if_true, Bool.false_eq_true, if_false, Bool.not_true, Bool.not_false, isPart, setTg, setNames, bin_add, bin_sub, cmp_lt, cmp_gt, cmp_le, cmp_ge, cmp_eq, orD_some, cmp_ne, eq_int, eq_str, abs_int, tuple_seq, list_seq, seqOf_tup, seqOf_lst, seqOf_fz, seqOf_ref, int_bl, mdl, fdl, min2, max2, pu_non, pu_bl, pu_int, pu_str, pu_nil, pu_cons, pure_tup, Bool.and_self, Int.reduceLT, and_true, true_and, decide_true, decide_false, isC_b_non, isC_n_bl, isC_n_int, isC_b_int, isC_n_str, isC_b_str, isC_n_tup, isC_b_tup, isC_n_lst, isC_b_lst, isC_n_fz, isC_b_fz, isC_n_dct, isC_b_dct, isC_n_ref, isC_b_ref, isC_n_exc, isC_b_exc, isC_n_non, isC_true_true_true, isC_true_true_false, isC_true_false_true, isC_true_false_false, isC_false_true_true, isC_false_true_false, isC_false_false_true, isC_false_false_false, isTys_nil, isTys_c, isTy_exv, isTy_exc, isTy_non_int, isTy_non_str, isTy_non_tuple, isTy_non_list, isTy_non_dict, isTy_non_bool, isTy_bl_int, isTy_bl_str, isTy_bl_tuple, isTy_bl_list, isTy_bl_dict, isTy_bl_bool, isTy_int_int, isTy_int_str, isTy_int_tuple, isTy_int_list, isTy_int_dict, isTy_int_bool, isTy_str_int, isTy_str_str, isTy_str_tuple, isTy_str_list, isTy_str_dict, isTy_str_bool, isTy_tup_int, isTy_tup_str, isTy_tup_tuple, isTy_tup_list, isTy_tup_dict, isTy_tup_bool, isTy_lst_int, isTy_lst_str, isTy_lst_tuple, isTy_lst_list, isTy_lst_dict, isTy_lst_bool, isTy_fz_int, isTy_fz_str, isTy_fz_tuple, isTy_fz_list, isTy_fz_dict, isTy_fz_bool, isTy_dct_int, isTy_dct_str, isTy_dct_tuple, isTy_dct_list, isTy_dct_dict, isTy_dct_bool, Option.bind_some, settle_int, settle_str, settle_bl, settle_non, settle_ref, settle_fz, settle_exc, settle_tup, settle_lst, settle_dct, settles_nil, settles_cons, $as,*] $[$l]?)
variable {n : Nat} {S : Sto}
theorem cell_at {ns : List Int} {k : Nat} (hc : Cl S) : ∃ v : Int, F (n + 1) 15 [.fz (ns.map .int), .int k] S = some (.ok (.int v) S) := by
  have hl : ∀ {S}, bltE S .len [.fz (ns.map .int)] = some (.int ns.length) := fun {S} => by rw [len_seq (ds := ns.map .int) rfl]; simp
  by_cases h : (k : Int) < (ns.length : Int)
  · have hix : ∀ {S}, idxE S (.fz (ns.map .int)) (.int (k : Nat)) = some (.int (ns.getD k 0)) := fun {S} => by
      rw [idx_f, atI_nat]
      have : k < ns.length := by omega
      simp [this]
    refine ⟨ns.getD k 0, wpR_is (e__law_cell_at (by simp only [settle_int, settle_str, settle_bl, settle_non, settle_ref, settle_fz, settle_exc, settle_tup, settle_lst, settle_dct, settles_nil, settles_cons]; rfl) ?_)⟩
    unfold b__law_cell_at
    simp! only [hl, h, hix, leave_int0 hc, leave_int hc, leave_bl0 hc, leave_bl hc, leave_str0 hc, leave_str hc, leave_non0 hc, leave_non hc, leave_tup0 hc, leave_tup hc, takeX hc, takeX0 hc]
  · refine ⟨0, wpR_is (e__law_cell_at (by simp only [settle_int, settle_str, settle_bl, settle_non, settle_ref, settle_fz, settle_exc, settle_tup, settle_lst, settle_dct, settles_nil, settles_cons]; rfl) ?_)⟩
    unfold b__law_cell_at
    simp! only [hl, h, leave_int0 hc, leave_int hc, leave_bl0 hc, leave_bl hc, leave_str0 hc, leave_str hc, leave_non0 hc, leave_non hc, leave_tup0 hc, leave_tup hc, takeX hc, takeX0 hc]
theorem mul7 {k : Nat} (hk : k < 1000) : binE S .mul (.int 7) (.int (k : Nat)) = some (.int (7 * k)) := by
  have key : ∀ j : Fin 1000, mulOk 7 ((j.val : Nat) : Int) = true := by decide +kernel
  show (if mulOk 7 (k : Int) then some (D.int (7 * k)) else none) = _
  rw [if_pos (key ⟨k, hk⟩)]
def Ws (fz : D) (w t : D) (ρ : Env) (Z : Sto) : Prop := Cl Z ∧ ∃ u3 u4 u5, ρ = [some fz, some w, some t, u3, u4, u5]
theorem c_law {ns : List Int} : ∃ S', F (n + 12) 29 [.fz (ns.map .int)] [] = some (.ok (.bl true) S') := by
  have key : wpR (fun a _ => a = .bl true) (fun _ _ => False) (F (n + 12) 29 [.fz (ns.map .int)] []) := by
    refine e_law (by simp only [settle_int, settle_str, settle_bl, settle_non, settle_ref, settle_fz, settle_exc, settle_tup, settle_lst, settle_dct, settles_nil, settles_cons]; rfl) ?_
    unfold b_law
    obtain ⟨rs, w, ew⟩ := c__law_any_world (n := n + 8) (ns := ns.take 7) Cl.nil
    have t1 := c__law_world_text (n := n + 8) w.ok w.len Cl.nil
    have wl := wT_len w.ok w.len
    have sl7 : slE [] (.fz (ns.map .int)) .non (.int 7) = some (.lst ((ns.take 7).map .int)) := by
      show some (D.lst (cut (ns.map D.int) 0 (min 7 (ns.map D.int).length))) = _
      unfold cut
      rw [List.drop_zero, Nat.sub_zero, ← List.map_take, List.length_map]
      congr 3
      by_cases h : 7 ≤ ns.length
      · rw [Nat.min_eq_left h]
      · rw [Nat.min_eq_right (by omega), List.take_length, List.take_of_length_le (by omega)]
    refine wp_then [some (.fz (ns.map .int)), some (wd rs), none, none, none, none] [] (fun Qn' q => by simp! only [sl7, ew, settles_rw]; exact q) ?_
    refine wp_then [some (.fz (ns.map .int)), some (wd rs), some (.str (wT rs)), none, none, none] [] (fun Qn' q => by simp! only [t1]; exact q) ?_
    have hl : ∀ {S}, bltE S .len [.fz (ns.map .int)] = some (.int ns.length) := fun {S} => by rw [len_seq (ds := ns.map .int) rfl]; simp
    obtain ⟨m, hm, hm0, hm1⟩ : ∃ m : Int, (if (if (ns.length : Int) < 20 then (ns.length : Int) else 20) > 4 then (if (ns.length : Int) < 20 then (ns.length : Int) else 20) else 4) = m ∧ 0 ≤ m ∧ m ≤ 20 := ⟨_, rfl, by split <;> (try split) <;> omega, by split <;> (try split) <;> omega⟩
    rw [wpB_cons]
    refine wp_for (fun k ρ Z => Ws (.fz (ns.map .int)) (wd rs) (.str (wT rs)) ρ Z) ?_
    simp! only [hl, hm]
    refine ⟨_, none, items_r1 (by omega) (by omega), rng_settled, ⟨Cl.nil, none, none, none, rfl⟩, fun _ _ _ _ => trivial, ?_, ?_⟩
    · rintro k y ρ Z hd ⟨hcZ, u3, u4, u5, rfl⟩
      obtain ⟨rfl, hk⟩ := rng_at hd
      have hk2 : k < 1000 := by omega
      obtain ⟨v, ev⟩ := cell_at (n := n + 10) (ns := ns) (k := k) hcZ
      obtain ⟨xs, hx, _, es⟩ := c__law_stream (n := n + 10) (m := 5) (c := v + 7 * k) (by decide) hcZ
      simp only [Int.cast_ofNat_Int] at es
      change wpB (g0 (n + 11)) [_, .ife _ [_] []] _ _ _ [some (.fz (ns.map .int)), some (wd rs), some (.str (wT rs)), some (.int k), u4, u5] _
      refine wp_then [some (.fz (ns.map .int)), some (wd rs), some (.str (wT rs)), some (.int k), u4, some (.ref Z.length)] (Z ++ [.lst (xs.map .int)]) (fun Qn' q => by simp! only [ev, mul7 hk2, es, settles_pure _ _ (ints_pure _)]; exact q) ?_
      have hc1 : Cl (Z ++ [D.lst (xs.map .int)]) := hcZ.lst (ints_pure xs)
      have hg1 : (Z ++ [D.lst (xs.map .int)])[Z.length]? = some (.lst (xs.map .int)) := by simp
      obtain ⟨x1, xs1, f1⟩ := c__law_take (n := n + 10) hc1 hg1
      have hc2 : Cl ((Z ++ [D.lst (xs.map .int)]).set Z.length (.lst (xs1.map .int))) := hc1.ints xs1
      obtain ⟨t0, b0, e0⟩ := c__law_none (n := n + 10) (x := x1) hc2
      have r0 := refused (n := n + 2) (t := .str t0) (t' := .str t0) (l := []) (S := (Z ++ [D.lst (xs.map .int)]).set Z.length (.lst (xs1.map .int))) (by simp only [settle_int, settle_str, settle_bl, settle_non, settle_ref, settle_fz, settle_exc, settle_tup, settle_lst, settle_dct, settles_nil, settles_cons, List.append_nil]) rfl (by rw [List.append_nil]; exact read_bad b0 hc2) hc2
      obtain ⟨u, xs2, hu, f2⟩ := c__law_spoiled (n := n + 9) (t := wT rs) (by omega) hc2 (get_set hg1)
      have hc3 := hc2.ints (i := Z.length) xs2
      have td := c__law_told (n := n + 1) (t := u) (by omega) hc3
      simp! only [f1, e0, r0, f2, td]
      exact ⟨hc3, _, _, _, rfl⟩
    · rintro ρ Z ⟨hcZ, u3, u4, u5, rfl⟩
      have no : ∀ {t t' : D} {l : Sto} {S : Sto}, Cl S → settles [t] S = ([t'], S ++ l) → t'.settled = true → Cl (S ++ l) → isTys (isaX 5) (S ++ l) t' [.str] = some false → F (n + 11) 25 [t] S = some (.ok (.bl true) S) := fun {t t' l S} hcS e hst hcl hty =>
        refused (n := n + 2) e hst (read_no hst hty hcl) hcS
      have stp : ∀ {t' : D} {Z' : Sto} {u3 u5 : Option D} {Q : D → Sto → Prop} {X : Nat → Sto → Prop}, Cl Z' → t'.settled = true → isTys (isaX 5) Z' t' [.str] = some false →
          wpB (g0 (n + 11)) [.ife (.not (.call 25 [.var 4])) [.ret (.cst (.bl false))] []] (fun ρ Z => Ws (.fz (ns.map .int)) (wd rs) (.str (wT rs)) ρ Z) Q X [some (.fz (ns.map .int)), some (wd rs), some (.str (wT rs)), u3, some t', u5] Z' := fun {t' Z' u3 u5 Q X} h1 h2 h3 => by
        have r := no (t := t') (t' := t') (l := []) h1 (by rw [settles_cons, settle_settled _ _ h2, settles_nil, List.append_nil]) h2 (by rw [List.append_nil]; exact h1) (by rw [List.append_nil]; exact h3)
        refine wp_ifF (fun Q' X' q => by simp! only [r]; exact q) ?_
        rw [wpB_nil, wpB_nil]
        exact ⟨h1, _, _, _, rfl⟩
      rw [wpB_cons]
      refine wp_forS (fun k ρ Z => Ws (.fz (ns.map .int)) (wd rs) (.str (wT rs)) ρ Z) ?_
      simp! only [wpB_nil]
      refine ⟨_, none, items_lst, ⟨hcZ, _, _, _, rfl⟩, fun _ _ _ _ => trivial, ?_, ?_⟩
      · rintro k d ρ Z hd ⟨hcZ, u3, u4, u5, rfl⟩
        have gl : ∀ o : D, (Z ++ [o])[Z.length]? = some o := fun o => by simp
        have k8 : k < 8 := (List.getElem?_eq_some_iff.mp hd).1
        have l3 : isTys (isaX 5) (Z ++ [D.lst []]) (.ref Z.length) [.str] = some false := by rw [isTys_c, isTy_rl_str (gl _)]; rfl
        have l4 : isTys (isaX 5) (Z ++ [D.lst [.str "unknown p truth"]]) (.ref Z.length) [.str] = some false := by rw [isTys_c, isTy_rl_str (gl _)]; rfl
        have l7 : isTys (isaX 5) (Z ++ [D.dct [] []]) (.ref Z.length) [.str] = some false := by
          have e : isTy (isaX 5) (Z ++ [D.dct [] []]) .str (.ref Z.length) = some false := by simp only [isTy, vtOf, gl]; rfl
          rw [isTys_c, e]; rfl
        have c3 : Cl (Z ++ [D.lst []]) := Cl.lst (ds := []) hcZ pu_nil
        have c4 : Cl (Z ++ [D.lst [.str "unknown p truth"]]) := Cl.lst (ds := [.str "unknown p truth"]) hcZ (strs_pure [("unknown p truth" : PySem.Str)])
        have c7 : Cl (Z ++ [D.dct [] []]) := Cl.app (l := [.dct [] []]) hcZ (by unfold unders D.under unders; rfl)
        have hk : k = 0 ∨ k = 1 ∨ k = 2 ∨ k = 3 ∨ k = 4 ∨ k = 5 ∨ k = 6 ∨ k = 7 := by omega
        rcases hk with rfl | rfl | rfl | rfl | rfl | rfl | rfl | rfl
        · obtain rfl : D.non = d := Option.some.inj hd
          simp only [settle_int, settle_str, settle_bl, settle_non, settle_ref, settle_fz, settle_exc, settle_tup, settle_lst, settle_dct, settles_nil, settles_cons, List.set_cons_succ, List.set_cons_zero]
          exact stp (t' := .non) (Z' := Z) hcZ rfl rfl
        · obtain rfl : D.int 7 = d := Option.some.inj hd
          simp only [settle_int, settle_str, settle_bl, settle_non, settle_ref, settle_fz, settle_exc, settle_tup, settle_lst, settle_dct, settles_nil, settles_cons, List.set_cons_succ, List.set_cons_zero]
          exact stp (t' := .int 7) (Z' := Z) hcZ rfl rfl
        · obtain rfl : D.bl true = d := Option.some.inj hd
          simp only [settle_int, settle_str, settle_bl, settle_non, settle_ref, settle_fz, settle_exc, settle_tup, settle_lst, settle_dct, settles_nil, settles_cons, List.set_cons_succ, List.set_cons_zero]
          exact stp (t' := .bl true) (Z' := Z) hcZ rfl rfl
        · obtain rfl : D.lst [] = d := Option.some.inj hd
          simp only [settle_int, settle_str, settle_bl, settle_non, settle_ref, settle_fz, settle_exc, settle_tup, settle_lst, settle_dct, settles_nil, settles_cons, List.set_cons_succ, List.set_cons_zero]
          generalize hZ' : Z ++ [D.lst []] = Z' at c3 l3 ⊢
          exact stp c3 rfl l3
        · obtain rfl : D.lst [.str "unknown p truth"] = d := Option.some.inj hd
          simp only [settle_int, settle_str, settle_bl, settle_non, settle_ref, settle_fz, settle_exc, settle_tup, settle_lst, settle_dct, settles_nil, settles_cons, List.set_cons_succ, List.set_cons_zero]
          generalize hZ' : Z ++ [D.lst [.str "unknown p truth"]] = Z' at c4 l4 ⊢
          exact stp c4 rfl l4
        · obtain rfl : D.tup [] = d := Option.some.inj hd
          simp only [settle_int, settle_str, settle_bl, settle_non, settle_ref, settle_fz, settle_exc, settle_tup, settle_lst, settle_dct, settles_nil, settles_cons, List.set_cons_succ, List.set_cons_zero]
          exact stp (t' := .tup []) (Z' := Z) hcZ rfl rfl
        · obtain rfl : D.tup [.tup [.str "unknown", .str "p", .tup [.str "truth"]]] = d := Option.some.inj hd
          simp only [settle_int, settle_str, settle_bl, settle_non, settle_ref, settle_fz, settle_exc, settle_tup, settle_lst, settle_dct, settles_nil, settles_cons, List.set_cons_succ, List.set_cons_zero]
          exact stp (t' := .tup [.tup [.str "unknown", .str "p", .tup [.str "truth"]]]) (Z' := Z) hcZ rfl rfl
        · obtain rfl : D.dct [] [] = d := Option.some.inj hd
          simp only [settle_int, settle_str, settle_bl, settle_non, settle_ref, settle_fz, settle_exc, settle_tup, settle_lst, settle_dct, settles_nil, settles_cons, List.set_cons_succ, List.set_cons_zero]
          generalize hZ' : Z ++ [D.dct [] []] = Z' at c7 l7 ⊢
          exact stp c7 rfl l7
      · rintro ρ Z ⟨hcZ, u3, u4, u5, rfl⟩
        have t3 := c_read_world (n := n + 3) w hcZ
        have eq1 : ∀ {S}, eqE S (wd rs) (wd rs) = some true := eq_refl (wd_pure rs) (by have := wd_depth rs; omega)
        have lv : leave 0 (.bl true) Z = some (.ok (.bl true) []) := leave_pure (S := []) (l := Z) Cl.nil rfl
        simp! only [t3, eq1, List.length_nil, lv]
  obtain ⟨a, S', e, h⟩ := wpR_out key
  exact ⟨S', by rw [e, h]⟩
end Pg
end
section
set_option Elab.async false
set_option linter.all false
set_option maxRecDepth 100000
set_option maxHeartbeats 0
namespace Hd
open PySem PySem.Spec PyProof.Rows L2 Ev
def top (i : Nat) : Stmt := PySem.Challenge.pw_threeproofs_k83_no_texts_of_worlds.main.body.getD i (.Pass ⟨0, 0, 0, 0⟩)
def mk (x : Str) (i : Nat) : He.DefD := ⟨(x, none), x, x, defArgs (top i), defBody (top i), defScope (top i), [], []⟩
def ro (f : Fn) (x : Str) (N : List Str) (i : Nat) : Ev.Row := ⟨f, x, N, defArgs (top i), defBody (top i), defScope (top i)⟩
def r0 : Ev.Row := ro ⟨3, 3, Pg.b_is_int⟩ "is_int" Pg.n_is_int 11
def r1 : Ev.Row := ro ⟨1, 2, Pg.b_is_name⟩ "is_name" Pg.n_is_name 12
def r2 : Ev.Row := ro ⟨3, 3, Pg.b_is_tagged⟩ "is_tagged" Pg.n_is_tagged 13
def r3 : Ev.Row := ro ⟨1, 1, Pg.b_is_place⟩ "is_place" Pg.n_is_place 14
def r4 : Ev.Row := ro ⟨1, 1, Pg.b_is_range⟩ "is_range" Pg.n_is_range 15
def r5 : Ev.Row := ro ⟨1, 2, Pg.b_are_places⟩ "are_places" Pg.n_are_places 16
def r6 : Ev.Row := ro ⟨1, 2, Pg.b_is_declaration⟩ "is_declaration" Pg.n_is_declaration 17
def r7 : Ev.Row := ro ⟨1, 3, Pg.b_made_world⟩ "made_world" Pg.n_made_world 18
def r8 : Ev.Row := ro ⟨1, 2, Pg.b_show_kind⟩ "show_kind" Pg.n_show_kind 22
def r9 : Ev.Row := ro ⟨1, 3, Pg.b_show_declaration⟩ "show_declaration" Pg.n_show_declaration 23
def r10 : Ev.Row := ro ⟨1, 2, Pg.b_show_world⟩ "show_world" Pg.n_show_world 24
def r11 : Ev.Row := ro ⟨1, 3, Pg.b_int_in⟩ "int_in" Pg.n_int_in 25
def r12 : Ev.Row := ro ⟨1, 3, Pg.b_kind_in⟩ "kind_in" Pg.n_kind_in 26
def r13 : Ev.Row := ro ⟨1, 4, Pg.b_declaration_in⟩ "declaration_in" Pg.n_declaration_in 27
def r14 : Ev.Row := ro ⟨1, 4, Pg.b_read_world⟩ "read_world" Pg.n_read_world 28
def r15 : Ev.Row := ro ⟨2, 2, Pg.b__law_cell_at⟩ "_law_cell_at" Pg.n__law_cell_at 30
def r16 : Ev.Row := ro ⟨2, 8, Pg.b__law_stream⟩ "_law_stream" Pg.n__law_stream 31
def r17 : Ev.Row := ro ⟨1, 1, Pg.b__law_take⟩ "_law_take" Pg.n__law_take 32
def r18 : Ev.Row := ro ⟨2, 4, Pg.b__law_name⟩ "_law_name" Pg.n__law_name 33
def r19 : Ev.Row := ro ⟨2, 4, Pg.b__law_any_kind⟩ "_law_any_kind" Pg.n__law_any_kind 34
def r20 : Ev.Row := ro ⟨2, 5, Pg.b__law_any_row⟩ "_law_any_row" Pg.n__law_any_row 35
def r21 : Ev.Row := ro ⟨1, 6, Pg.b__law_any_world⟩ "_law_any_world" Pg.n__law_any_world 36
def r22 : Ev.Row := ro ⟨1, 2, Pg.b__law_kind_text⟩ "_law_kind_text" Pg.n__law_kind_text 37
def r23 : Ev.Row := ro ⟨1, 4, Pg.b__law_row_text⟩ "_law_row_text" Pg.n__law_row_text 38
def r24 : Ev.Row := ro ⟨1, 2, Pg.b__law_world_text⟩ "_law_world_text" Pg.n__law_world_text 39
def r25 : Ev.Row := ro ⟨1, 3, Pg.b__law_refused⟩ "_law_refused" Pg.n__law_refused 40
def r26 : Ev.Row := ro ⟨1, 2, Pg.b__law_told⟩ "_law_told" Pg.n__law_told 41
def r27 : Ev.Row := ro ⟨2, 8, Pg.b__law_spoiled⟩ "_law_spoiled" Pg.n__law_spoiled 42
def r28 : Ev.Row := ro ⟨1, 3, Pg.b__law_none⟩ "_law_none" Pg.n__law_none 43
def r29 : Ev.Row := ro ⟨1, 6, Pg.b_law⟩ "law" Pg.n_law 44
def rows : List Ev.Row := ([r0, r1, r2, r3, r4, r5, r6, r7, r8, r9, r10, r11] : List Ev.Row) ++ ([r12, r13, r14, r15, r16, r17, r18, r19, r20, r21, r22, r23] : List Ev.Row) ++ ([r24, r25, r26, r27, r28, r29] : List Ev.Row)
def fn : List He.DefD := ([mk "is_int" 11, mk "is_name" 12, mk "is_tagged" 13, mk "is_place" 14, mk "is_range" 15, mk "are_places" 16, mk "is_declaration" 17, mk "made_world" 18, mk "show_kind" 22, mk "show_declaration" 23, mk "show_world" 24, mk "int_in" 25] : List He.DefD) ++ ([mk "kind_in" 26, mk "declaration_in" 27, mk "read_world" 28, mk "_law_cell_at" 30, mk "_law_stream" 31, mk "_law_take" 32, mk "_law_name" 33, mk "_law_any_kind" 34, mk "_law_any_row" 35, mk "_law_any_world" 36, mk "_law_kind_text" 37, mk "_law_row_text" 38] : List He.DefD) ++ ([mk "_law_world_text" 39, mk "_law_refused" 40, mk "_law_told" 41, mk "_law_spoiled" 42, mk "_law_none" 43, mk "law" 44] : List He.DefD)
def consts : List (Str × D) := [("LETTERS", .str "abcdefghijklmnopqrstuvwxyz"), ("MOST_DECLARATIONS", .int 24), ("WIDEST_RANGE", .int 16), ("FARTHEST", .int 50), ("FIGURES", .str "0123456789"), ("MOST_FIGURES", .int 8)]
def cn : List Str := (["ProofError", "NoWorld", "NoWish", "NoPaper", "NoText"] : List PySem.Str)
def txt : Txt0 := ⟨rows, (["ProofError", "NoWorld", "NoWish", "NoPaper", "NoText"] : List PySem.Str), consts, 14⟩
theorem chk_all : chkTxt txt = true := by kernel_rfl
theorem fns_eq : txt.fns = Pg.fns := rfl
def fa : List He.Fa := ([.glo "is_int", .glo "is_name", .glo "is_tagged", .glo "is_place", .glo "is_range", .glo "are_places", .glo "is_declaration", .glo "made_world", .glo "show_kind", .glo "show_declaration", .glo "show_world", .glo "int_in"] : List He.Fa) ++ ([.glo "kind_in", .glo "declaration_in", .glo "read_world", .glo "_law_cell_at", .glo "_law_stream", .glo "_law_take", .glo "_law_name", .glo "_law_any_kind", .glo "_law_any_row", .glo "_law_any_world", .glo "_law_kind_text", .glo "_law_row_text"] : List He.Fa) ++ ([.glo "_law_world_text", .glo "_law_refused", .glo "_law_told", .glo "_law_spoiled", .glo "_law_none", .glo "law", .free "len", .free "abs", .free "min", .free "max", .free "sum", .free "sorted"] : List He.Fa) ++ ([.free "tuple", .free "list", .free "int", .free "str", .free "isinstance", .free "range", .free "zip", .free "dict", .free "bool", .free "ValueError", .free "enumerate", .str "LETTERS" "abcdefghijklmnopqrstuvwxyz"] : List He.Fa) ++ ([.int "MOST_DECLARATIONS" 24, .int "WIDEST_RANGE" 16, .int "FARTHEST" 50, .str "FIGURES" "0123456789", .int "MOST_FIGURES" 8, .glo "ProofError", .glo "NoWorld", .glo "NoWish", .glo "NoPaper", .glo "NoText"] : List He.Fa)
abbrev R : PySem.W.OpenRow := PySem.W.OpenLaw.row PySem.Challenge.rw_threeproofs_k83_no_texts_of_worlds
abbrev hk : PySem.W.Hook := hookX 4 fa fn cn
def ob (s : PySem.W.SharedT) : He.AlD × Bool := obsX 4 fa fn cn (HandSHeadRun.getT s)
theorem ob_eq (s : PySem.W.SharedT) : ob s = hk.obs s.abs := obsX_eq (HandSHeadRun.getT_eq s)
def loose : List Str := (["is_int", "is_name", "is_tagged", "is_place", "is_range", "are_places", "is_declaration", "made_world", "show_kind", "show_declaration", "show_world", "int_in"] : List PySem.Str) ++ (["kind_in", "declaration_in", "read_world", "_law_cell_at", "_law_stream", "_law_take", "_law_name", "_law_any_kind", "_law_any_row", "_law_any_world", "_law_kind_text", "_law_row_text"] : List PySem.Str) ++ (["_law_world_text", "_law_refused", "_law_told", "_law_spoiled", "_law_none", "ProofError", "NoWorld", "NoWish", "NoPaper", "NoText", "LETTERS", "MOST_DECLARATIONS"] : List PySem.Str) ++ (["WIDEST_RANGE", "FARTHEST", "FIGURES", "MOST_FIGURES"] : List PySem.Str)
theorem run (w : World) : HandSHeadRun.RunEq R (PySem.W.view R.prog [44]) hk ob 8000 loose w := by
  intro os
  kernel_rfl
section
variable {P : Program} {w : World} {K : PySem.W.Frag} {h : Heap} {mg : Str → Option Value}
def FunsP (K : PySem.W.Frag) (mg : Str → Option Value) (r : Ev.Row) : Prop := ∃ addr fd, mg r.nm = some (.ref addr) ∧ FunD K r.nm r.nm r.params r.body r.scope [] [] addr fd ∧ Binds K fd r.ps []
theorem f0 (X : K.In h) (G : h.Ns mainGlobals mg) (c : He.SaysD fa fn K) : FunsP K mg r0 := by
  obtain ⟨fd, F⟩ := c.def_ 0 (d := mk "is_int" 11) rfl
  exact ⟨_, fd, He.glo_ok X G (c.fact 0 (f := .glo "is_int") rfl), F, FunD.bindsN (ps := ["thing", "least", "most"]) F fun _ _ _ _ _ _ us hl => match us, hl with | [_, _, _], _ => rfl⟩
theorem f1 (X : K.In h) (G : h.Ns mainGlobals mg) (c : He.SaysD fa fn K) : FunsP K mg r1 := by
  obtain ⟨fd, F⟩ := c.def_ 1 (d := mk "is_name" 12) rfl
  exact ⟨_, fd, He.glo_ok X G (c.fact 1 (f := .glo "is_name") rfl), F, FunD.bindsN (ps := ["thing"]) F fun _ _ _ _ _ _ us hl => match us, hl with | [_], _ => rfl⟩
theorem f2 (X : K.In h) (G : h.Ns mainGlobals mg) (c : He.SaysD fa fn K) : FunsP K mg r2 := by
  obtain ⟨fd, F⟩ := c.def_ 2 (d := mk "is_tagged" 13) rfl
  exact ⟨_, fd, He.glo_ok X G (c.fact 2 (f := .glo "is_tagged") rfl), F, FunD.bindsN (ps := ["thing", "tag", "long"]) F fun _ _ _ _ _ _ us hl => match us, hl with | [_, _, _], _ => rfl⟩
theorem f3 (X : K.In h) (G : h.Ns mainGlobals mg) (c : He.SaysD fa fn K) : FunsP K mg r3 := by
  obtain ⟨fd, F⟩ := c.def_ 3 (d := mk "is_place" 14) rfl
  exact ⟨_, fd, He.glo_ok X G (c.fact 3 (f := .glo "is_place") rfl), F, FunD.bindsN (ps := ["thing"]) F fun _ _ _ _ _ _ us hl => match us, hl with | [_], _ => rfl⟩
theorem f4 (X : K.In h) (G : h.Ns mainGlobals mg) (c : He.SaysD fa fn K) : FunsP K mg r4 := by
  obtain ⟨fd, F⟩ := c.def_ 4 (d := mk "is_range" 15) rfl
  exact ⟨_, fd, He.glo_ok X G (c.fact 4 (f := .glo "is_range") rfl), F, FunD.bindsN (ps := ["thing"]) F fun _ _ _ _ _ _ us hl => match us, hl with | [_], _ => rfl⟩
theorem f5 (X : K.In h) (G : h.Ns mainGlobals mg) (c : He.SaysD fa fn K) : FunsP K mg r5 := by
  obtain ⟨fd, F⟩ := c.def_ 5 (d := mk "are_places" 16) rfl
  exact ⟨_, fd, He.glo_ok X G (c.fact 5 (f := .glo "are_places") rfl), F, FunD.bindsN (ps := ["thing"]) F fun _ _ _ _ _ _ us hl => match us, hl with | [_], _ => rfl⟩
theorem f6 (X : K.In h) (G : h.Ns mainGlobals mg) (c : He.SaysD fa fn K) : FunsP K mg r6 := by
  obtain ⟨fd, F⟩ := c.def_ 6 (d := mk "is_declaration" 17) rfl
  exact ⟨_, fd, He.glo_ok X G (c.fact 6 (f := .glo "is_declaration") rfl), F, FunD.bindsN (ps := ["thing"]) F fun _ _ _ _ _ _ us hl => match us, hl with | [_], _ => rfl⟩
theorem f7 (X : K.In h) (G : h.Ns mainGlobals mg) (c : He.SaysD fa fn K) : FunsP K mg r7 := by
  obtain ⟨fd, F⟩ := c.def_ 7 (d := mk "made_world" 18) rfl
  exact ⟨_, fd, He.glo_ok X G (c.fact 7 (f := .glo "made_world") rfl), F, FunD.bindsN (ps := ["declarations"]) F fun _ _ _ _ _ _ us hl => match us, hl with | [_], _ => rfl⟩
theorem f8 (X : K.In h) (G : h.Ns mainGlobals mg) (c : He.SaysD fa fn K) : FunsP K mg r8 := by
  obtain ⟨fd, F⟩ := c.def_ 8 (d := mk "show_kind" 22) rfl
  exact ⟨_, fd, He.glo_ok X G (c.fact 8 (f := .glo "show_kind") rfl), F, FunD.bindsN (ps := ["kind"]) F fun _ _ _ _ _ _ us hl => match us, hl with | [_], _ => rfl⟩
theorem f9 (X : K.In h) (G : h.Ns mainGlobals mg) (c : He.SaysD fa fn K) : FunsP K mg r9 := by
  obtain ⟨fd, F⟩ := c.def_ 9 (d := mk "show_declaration" 23) rfl
  exact ⟨_, fd, He.glo_ok X G (c.fact 9 (f := .glo "show_declaration") rfl), F, FunD.bindsN (ps := ["declaration"]) F fun _ _ _ _ _ _ us hl => match us, hl with | [_], _ => rfl⟩
theorem f10 (X : K.In h) (G : h.Ns mainGlobals mg) (c : He.SaysD fa fn K) : FunsP K mg r10 := by
  obtain ⟨fd, F⟩ := c.def_ 10 (d := mk "show_world" 24) rfl
  exact ⟨_, fd, He.glo_ok X G (c.fact 10 (f := .glo "show_world") rfl), F, FunD.bindsN (ps := ["world"]) F fun _ _ _ _ _ _ us hl => match us, hl with | [_], _ => rfl⟩
theorem f11 (X : K.In h) (G : h.Ns mainGlobals mg) (c : He.SaysD fa fn K) : FunsP K mg r11 := by
  obtain ⟨fd, F⟩ := c.def_ 11 (d := mk "int_in" 25) rfl
  exact ⟨_, fd, He.glo_ok X G (c.fact 11 (f := .glo "int_in") rfl), F, FunD.bindsN (ps := ["word"]) F fun _ _ _ _ _ _ us hl => match us, hl with | [_], _ => rfl⟩
theorem f12 (X : K.In h) (G : h.Ns mainGlobals mg) (c : He.SaysD fa fn K) : FunsP K mg r12 := by
  obtain ⟨fd, F⟩ := c.def_ 12 (d := mk "kind_in" 26) rfl
  exact ⟨_, fd, He.glo_ok X G (c.fact 12 (f := .glo "kind_in") rfl), F, FunD.bindsN (ps := ["word"]) F fun _ _ _ _ _ _ us hl => match us, hl with | [_], _ => rfl⟩
theorem f13 (X : K.In h) (G : h.Ns mainGlobals mg) (c : He.SaysD fa fn K) : FunsP K mg r13 := by
  obtain ⟨fd, F⟩ := c.def_ 13 (d := mk "declaration_in" 27) rfl
  exact ⟨_, fd, He.glo_ok X G (c.fact 13 (f := .glo "declaration_in") rfl), F, FunD.bindsN (ps := ["text"]) F fun _ _ _ _ _ _ us hl => match us, hl with | [_], _ => rfl⟩
theorem f14 (X : K.In h) (G : h.Ns mainGlobals mg) (c : He.SaysD fa fn K) : FunsP K mg r14 := by
  obtain ⟨fd, F⟩ := c.def_ 14 (d := mk "read_world" 28) rfl
  exact ⟨_, fd, He.glo_ok X G (c.fact 14 (f := .glo "read_world") rfl), F, FunD.bindsN (ps := ["text"]) F fun _ _ _ _ _ _ us hl => match us, hl with | [_], _ => rfl⟩
theorem f15 (X : K.In h) (G : h.Ns mainGlobals mg) (c : He.SaysD fa fn K) : FunsP K mg r15 := by
  obtain ⟨fd, F⟩ := c.def_ 15 (d := mk "_law_cell_at" 30) rfl
  exact ⟨_, fd, He.glo_ok X G (c.fact 15 (f := .glo "_law_cell_at") rfl), F, FunD.bindsN (ps := ["_law_script", "_law_k"]) F fun _ _ _ _ _ _ us hl => match us, hl with | [_, _], _ => rfl⟩
theorem f16 (X : K.In h) (G : h.Ns mainGlobals mg) (c : He.SaysD fa fn K) : FunsP K mg r16 := by
  obtain ⟨fd, F⟩ := c.def_ 16 (d := mk "_law_stream" 31) rfl
  exact ⟨_, fd, He.glo_ok X G (c.fact 16 (f := .glo "_law_stream") rfl), F, FunD.bindsN (ps := ["_law_cell", "_law_many"]) F fun _ _ _ _ _ _ us hl => match us, hl with | [_, _], _ => rfl⟩
theorem f17 (X : K.In h) (G : h.Ns mainGlobals mg) (c : He.SaysD fa fn K) : FunsP K mg r17 := by
  obtain ⟨fd, F⟩ := c.def_ 17 (d := mk "_law_take" 32) rfl
  exact ⟨_, fd, He.glo_ok X G (c.fact 17 (f := .glo "_law_take") rfl), F, FunD.bindsN (ps := ["_law_xs"]) F fun _ _ _ _ _ _ us hl => match us, hl with | [_], _ => rfl⟩
theorem f18 (X : K.In h) (G : h.Ns mainGlobals mg) (c : He.SaysD fa fn K) : FunsP K mg r18 := by
  obtain ⟨fd, F⟩ := c.def_ 18 (d := mk "_law_name" 33) rfl
  exact ⟨_, fd, He.glo_ok X G (c.fact 18 (f := .glo "_law_name") rfl), F, FunD.bindsN (ps := ["_law_k", "_law_number"]) F fun _ _ _ _ _ _ us hl => match us, hl with | [_, _], _ => rfl⟩
theorem f19 (X : K.In h) (G : h.Ns mainGlobals mg) (c : He.SaysD fa fn K) : FunsP K mg r19 := by
  obtain ⟨fd, F⟩ := c.def_ 19 (d := mk "_law_any_kind" 34) rfl
  exact ⟨_, fd, He.glo_ok X G (c.fact 19 (f := .glo "_law_any_kind") rfl), F, FunD.bindsN (ps := ["_law_number", "_law_most"]) F fun _ _ _ _ _ _ us hl => match us, hl with | [_, _], _ => rfl⟩
theorem f20 (X : K.In h) (G : h.Ns mainGlobals mg) (c : He.SaysD fa fn K) : FunsP K mg r20 := by
  obtain ⟨fd, F⟩ := c.def_ 20 (d := mk "_law_any_row" 35) rfl
  exact ⟨_, fd, He.glo_ok X G (c.fact 20 (f := .glo "_law_any_row") rfl), F, FunD.bindsN (ps := ["_law_name_here", "_law_xs"]) F fun _ _ _ _ _ _ us hl => match us, hl with | [_, _], _ => rfl⟩
theorem f21 (X : K.In h) (G : h.Ns mainGlobals mg) (c : He.SaysD fa fn K) : FunsP K mg r21 := by
  obtain ⟨fd, F⟩ := c.def_ 21 (d := mk "_law_any_world" 36) rfl
  exact ⟨_, fd, He.glo_ok X G (c.fact 21 (f := .glo "_law_any_world") rfl), F, FunD.bindsN (ps := ["_law_script"]) F fun _ _ _ _ _ _ us hl => match us, hl with | [_], _ => rfl⟩
theorem f22 (X : K.In h) (G : h.Ns mainGlobals mg) (c : He.SaysD fa fn K) : FunsP K mg r22 := by
  obtain ⟨fd, F⟩ := c.def_ 22 (d := mk "_law_kind_text" 37) rfl
  exact ⟨_, fd, He.glo_ok X G (c.fact 22 (f := .glo "_law_kind_text") rfl), F, FunD.bindsN (ps := ["_law_kind"]) F fun _ _ _ _ _ _ us hl => match us, hl with | [_], _ => rfl⟩
theorem f23 (X : K.In h) (G : h.Ns mainGlobals mg) (c : He.SaysD fa fn K) : FunsP K mg r23 := by
  obtain ⟨fd, F⟩ := c.def_ 23 (d := mk "_law_row_text" 38) rfl
  exact ⟨_, fd, He.glo_ok X G (c.fact 23 (f := .glo "_law_row_text") rfl), F, FunD.bindsN (ps := ["_law_row"]) F fun _ _ _ _ _ _ us hl => match us, hl with | [_], _ => rfl⟩
theorem f24 (X : K.In h) (G : h.Ns mainGlobals mg) (c : He.SaysD fa fn K) : FunsP K mg r24 := by
  obtain ⟨fd, F⟩ := c.def_ 24 (d := mk "_law_world_text" 39) rfl
  exact ⟨_, fd, He.glo_ok X G (c.fact 24 (f := .glo "_law_world_text") rfl), F, FunD.bindsN (ps := ["_law_world"]) F fun _ _ _ _ _ _ us hl => match us, hl with | [_], _ => rfl⟩
theorem f25 (X : K.In h) (G : h.Ns mainGlobals mg) (c : He.SaysD fa fn K) : FunsP K mg r25 := by
  obtain ⟨fd, F⟩ := c.def_ 25 (d := mk "_law_refused" 40) rfl
  exact ⟨_, fd, He.glo_ok X G (c.fact 25 (f := .glo "_law_refused") rfl), F, FunD.bindsN (ps := ["_law_thing"]) F fun _ _ _ _ _ _ us hl => match us, hl with | [_], _ => rfl⟩
theorem f26 (X : K.In h) (G : h.Ns mainGlobals mg) (c : He.SaysD fa fn K) : FunsP K mg r26 := by
  obtain ⟨fd, F⟩ := c.def_ 26 (d := mk "_law_told" 41) rfl
  exact ⟨_, fd, He.glo_ok X G (c.fact 26 (f := .glo "_law_told") rfl), F, FunD.bindsN (ps := ["_law_text"]) F fun _ _ _ _ _ _ us hl => match us, hl with | [_], _ => rfl⟩
theorem f27 (X : K.In h) (G : h.Ns mainGlobals mg) (c : He.SaysD fa fn K) : FunsP K mg r27 := by
  obtain ⟨fd, F⟩ := c.def_ 27 (d := mk "_law_spoiled" 42) rfl
  exact ⟨_, fd, He.glo_ok X G (c.fact 27 (f := .glo "_law_spoiled") rfl), F, FunD.bindsN (ps := ["_law_text", "_law_xs"]) F fun _ _ _ _ _ _ us hl => match us, hl with | [_, _], _ => rfl⟩
theorem f28 (X : K.In h) (G : h.Ns mainGlobals mg) (c : He.SaysD fa fn K) : FunsP K mg r28 := by
  obtain ⟨fd, F⟩ := c.def_ 28 (d := mk "_law_none" 43) rfl
  exact ⟨_, fd, He.glo_ok X G (c.fact 28 (f := .glo "_law_none") rfl), F, FunD.bindsN (ps := ["_law_number"]) F fun _ _ _ _ _ _ us hl => match us, hl with | [_], _ => rfl⟩
theorem f29 (X : K.In h) (G : h.Ns mainGlobals mg) (c : He.SaysD fa fn K) : FunsP K mg r29 := by
  obtain ⟨fd, F⟩ := c.def_ 29 (d := mk "law" 44) rfl
  exact ⟨_, fd, He.glo_ok X G (c.fact 29 (f := .glo "law") rfl), F, FunD.bindsN (ps := ["_law_script"]) F fun _ _ _ _ _ _ us hl => match us, hl with | [_], _ => rfl⟩
theorem funs (X : K.In h) (G : h.Ns mainGlobals mg) (c : He.SaysD fa fn K) : ∀ r ∈ rows, FunsP K mg r := (List.forall_mem_append.mpr ⟨(List.forall_mem_append.mpr ⟨(List.forall_mem_cons.mpr ⟨(f0 X G c), List.forall_mem_cons.mpr ⟨(f1 X G c), List.forall_mem_cons.mpr ⟨(f2 X G c), List.forall_mem_cons.mpr ⟨(f3 X G c), List.forall_mem_cons.mpr ⟨(f4 X G c), List.forall_mem_cons.mpr ⟨(f5 X G c), List.forall_mem_cons.mpr ⟨(f6 X G c), List.forall_mem_cons.mpr ⟨(f7 X G c), List.forall_mem_cons.mpr ⟨(f8 X G c), List.forall_mem_cons.mpr ⟨(f9 X G c), List.forall_mem_cons.mpr ⟨(f10 X G c), List.forall_mem_cons.mpr ⟨(f11 X G c), (fun _ h => nomatch h)⟩⟩⟩⟩⟩⟩⟩⟩⟩⟩⟩⟩), List.forall_mem_cons.mpr ⟨(f12 X G c), List.forall_mem_cons.mpr ⟨(f13 X G c), List.forall_mem_cons.mpr ⟨(f14 X G c), List.forall_mem_cons.mpr ⟨(f15 X G c), List.forall_mem_cons.mpr ⟨(f16 X G c), List.forall_mem_cons.mpr ⟨(f17 X G c), List.forall_mem_cons.mpr ⟨(f18 X G c), List.forall_mem_cons.mpr ⟨(f19 X G c), List.forall_mem_cons.mpr ⟨(f20 X G c), List.forall_mem_cons.mpr ⟨(f21 X G c), List.forall_mem_cons.mpr ⟨(f22 X G c), List.forall_mem_cons.mpr ⟨(f23 X G c), (fun _ h => nomatch h)⟩⟩⟩⟩⟩⟩⟩⟩⟩⟩⟩⟩⟩), List.forall_mem_cons.mpr ⟨(f24 X G c), List.forall_mem_cons.mpr ⟨(f25 X G c), List.forall_mem_cons.mpr ⟨(f26 X G c), List.forall_mem_cons.mpr ⟨(f27 X G c), List.forall_mem_cons.mpr ⟨(f28 X G c), List.forall_mem_cons.mpr ⟨(f29 X G c), (fun _ h => nomatch h)⟩⟩⟩⟩⟩⟩⟩)
theorem free (X : K.In h) (G : h.Ns mainGlobals mg) (c : He.SaysD fa fn K) : ∀ x ∈ bltNames, mg x = none := List.forall_mem_cons.mpr ⟨(He.free_ok X G (c.fact 30 (f := .free "len") rfl)), List.forall_mem_cons.mpr ⟨(He.free_ok X G (c.fact 31 (f := .free "abs") rfl)), List.forall_mem_cons.mpr ⟨(He.free_ok X G (c.fact 32 (f := .free "min") rfl)), List.forall_mem_cons.mpr ⟨(He.free_ok X G (c.fact 33 (f := .free "max") rfl)), List.forall_mem_cons.mpr ⟨(He.free_ok X G (c.fact 34 (f := .free "sum") rfl)), List.forall_mem_cons.mpr ⟨(He.free_ok X G (c.fact 35 (f := .free "sorted") rfl)), List.forall_mem_cons.mpr ⟨(He.free_ok X G (c.fact 36 (f := .free "tuple") rfl)), List.forall_mem_cons.mpr ⟨(He.free_ok X G (c.fact 37 (f := .free "list") rfl)), List.forall_mem_cons.mpr ⟨(He.free_ok X G (c.fact 38 (f := .free "int") rfl)), List.forall_mem_cons.mpr ⟨(He.free_ok X G (c.fact 39 (f := .free "str") rfl)), List.forall_mem_cons.mpr ⟨(He.free_ok X G (c.fact 40 (f := .free "isinstance") rfl)), List.forall_mem_cons.mpr ⟨(He.free_ok X G (c.fact 41 (f := .free "range") rfl)), List.forall_mem_cons.mpr ⟨(He.free_ok X G (c.fact 42 (f := .free "zip") rfl)), List.forall_mem_cons.mpr ⟨(He.free_ok X G (c.fact 43 (f := .free "dict") rfl)), List.forall_mem_cons.mpr ⟨(He.free_ok X G (c.fact 44 (f := .free "bool") rfl)), List.forall_mem_cons.mpr ⟨(He.free_ok X G (c.fact 45 (f := .free "ValueError") rfl)), List.forall_mem_cons.mpr ⟨(He.free_ok X G (c.fact 46 (f := .free "enumerate") rfl)), (fun _ h => nomatch h)⟩⟩⟩⟩⟩⟩⟩⟩⟩⟩⟩⟩⟩⟩⟩⟩⟩
theorem con (X : K.In h) (G : h.Ns mainGlobals mg) (c : He.SaysD fa fn K) : ∀ (x : Str) (d : D), consts.lookup x = some d → ∃ u v, mg x = some u ∧ RelV v u ∧ scalV d v := by
  intro x d e
  simp only [consts, List.lookup_cons, List.lookup_nil] at e
  split at e
  · rename_i hx; cases e; have hx := eq_of_beq hx; subst hx
    obtain ⟨t, ht⟩ := He.str_ok X G (c.fact 47 rfl)
    exact ⟨_, .str "abcdefghijklmnopqrstuvwxyz", ht, ⟨t, rfl⟩, rfl⟩
  split at e
  · rename_i hx; cases e; have hx := eq_of_beq hx; subst hx
    obtain ⟨t, ht⟩ := He.int_ok X G (c.fact 48 rfl)
    exact ⟨_, .int 24, ht, ⟨t, rfl⟩, rfl⟩
  split at e
  · rename_i hx; cases e; have hx := eq_of_beq hx; subst hx
    obtain ⟨t, ht⟩ := He.int_ok X G (c.fact 49 rfl)
    exact ⟨_, .int 16, ht, ⟨t, rfl⟩, rfl⟩
  split at e
  · rename_i hx; cases e; have hx := eq_of_beq hx; subst hx
    obtain ⟨t, ht⟩ := He.int_ok X G (c.fact 50 rfl)
    exact ⟨_, .int 50, ht, ⟨t, rfl⟩, rfl⟩
  split at e
  · rename_i hx; cases e; have hx := eq_of_beq hx; subst hx
    obtain ⟨t, ht⟩ := He.str_ok X G (c.fact 51 rfl)
    exact ⟨_, .str "0123456789", ht, ⟨t, rfl⟩, rfl⟩
  split at e
  · rename_i hx; cases e; have hx := eq_of_beq hx; subst hx
    obtain ⟨t, ht⟩ := He.int_ok X G (c.fact 52 rfl)
    exact ⟨_, .int 8, ht, ⟨t, rfl⟩, rfl⟩
  cases e
theorem cls_mg (X : K.In h) (G : h.Ns mainGlobals mg) (c : He.SaysD fa fn K) : ∀ (k : Nat) (x : Str), cn[k]? = some x → mg x = some (.ref (cAd K cn k))
  | 0, x, e => by
    have e2 : cn[0]? = some ("ProofError" : Str) := rfl
    rw [e2] at e; cases e
    exact He.glo_ok X G (c.fact 53 (f := .glo "ProofError") rfl)
  | 1, x, e => by
    have e2 : cn[1]? = some ("NoWorld" : Str) := rfl
    rw [e2] at e; cases e
    exact He.glo_ok X G (c.fact 54 (f := .glo "NoWorld") rfl)
  | 2, x, e => by
    have e2 : cn[2]? = some ("NoWish" : Str) := rfl
    rw [e2] at e; cases e
    exact He.glo_ok X G (c.fact 55 (f := .glo "NoWish") rfl)
  | 3, x, e => by
    have e2 : cn[3]? = some ("NoPaper" : Str) := rfl
    rw [e2] at e; cases e
    exact He.glo_ok X G (c.fact 56 (f := .glo "NoPaper") rfl)
  | 4, x, e => by
    have e2 : cn[4]? = some ("NoText" : Str) := rfl
    rw [e2] at e; cases e
    exact He.glo_ok X G (c.fact 57 (f := .glo "NoText") rfl)
  | k + 5, x, e => by
    have hl : cn.length = 5 := rfl
    rw [List.getElem?_eq_none (by rw [hl]; omega)] at e; cases e
theorem stands (X : K.In h) (G : h.Ns mainGlobals mg) (c : He.SaysD fa fn K) (cx : excB K cn = true) : Stands P w K mg (cAd K cn) (Ev.isaX 5) txt :=
  have q := excK_of (cn := cn) (by decide) cx
  ⟨q.1, fun k x e => ⟨cls_mg X G c k x e, q.2⟩, con X G c, free X G c, fun f r h => funs X G c r (List.mem_of_getElem? h)⟩
theorem facts {f : Addr} (n : Nat) (X : K.In h) (G : h.Ns mainGlobals mg) (hfa : mg ("law" : Str) = some (.ref f)) (c : He.SaysD fa fn K ∧ excB K cn = true) :
    ∃ fd : FuncData, (∀ (s : Shared) (v : Value), BindsTo s fd ⟨[v], []⟩ [("_law_script", v)]) ∧ ∀ base : Heap, FnOk P w K mg base (L2.CX P w) n f fd r29.ps (spF ⟨K, w, (cAd K cn)⟩ (callN Pg.fns (Ev.isaX 5) n 29)) := by
  obtain ⟨fd, F⟩ := (c.1).def_ 29 (d := mk "law" 44) rfl
  have e := hfa.symm.trans (He.glo_ok X G ((c.1).fact 29 (f := .glo "law") rfl))
  cases e
  have b := FunD.bindsA (ps := ["_law_script"]) F fun _ _ _ _ _ _ us hl => match us, hl with | [_], _ => rfl
  exact ⟨fd, fun s v => b s [v] rfl, fun base => fns_eq ▸ fns_ok (base := base) (stands X G c.1 c.2) chk_all n 29 r29 rfl _ fd F⟩
end
end Hd
open PySem PySem.W PySem.Calls PyProof.Rows
theorem holds_of (HH : ∀ ns : List Int, ns.length ≤ 63 → ∃ S', Ev.callN Pg.fns (Ev.isaX 5) 100 29 [.fz (ns.map .int)] [] = some (.ok (.bl true) S')) : PySem.Challenge.rw_threeproofs_k83_no_texts_of_worlds.Holds := by
  w_on; o_law
  refine HandSHeadRun.head_any (r := OpenLaw.row PySem.Challenge.rw_threeproofs_k83_no_texts_of_worlds) (q := view (OpenLaw.row PySem.Challenge.rw_threeproofs_k83_no_texts_of_worlds).prog [44]) (H := Hd.hk) (ob := Hd.ob) (M := 8000) (loose := Hd.loose) (d := HandSHeadRun.topDef (OpenLaw.row PySem.Challenge.rw_threeproofs_k83_no_texts_of_worlds).prog 44) (kwd := []) Hd.ob_eq
    (by kernel_rfl) (fun s => by kernel_rfl) Hd.run (by kernel_rfl) (by kernel_rfl) (by kernel_rfl) (by rfl) (by first | assumption | decide +kernel) (by decide +kernel) ⟨rfl, rfl, rfl, rfl, rfl, by decide +kernel⟩ ?hw ?hc
  case hw => w_witness2
  case hc =>
    refine L2.walk_ofE (l := PySem.Challenge.rw_threeproofs_k83_no_texts_of_worlds) (n := 63) (k := 100) (x := "_law_script") (CX := L2.CX0) rfl (by decide) (by kernel_rfl) ⟨rfl, by decide, by decide⟩ ?F (fun _ _ _ _ z => z)
    case F =>
      intro w mg fa h Y G hmg0
      obtain ⟨K, KX, c⟩ := Y
      have hmg : mg ("law" : PySem.Str) = some (.ref fa) := by
        have e : (HandSHeadRun.topDef (OpenLaw.row PySem.Challenge.rw_threeproofs_k83_no_texts_of_worlds).prog 44).name = ("law" : PySem.Str) := by kernel_rfl
        rw [← e]
        exact hmg0
      obtain ⟨fd, hb, hF⟩ := Hd.facts (P := (PySem.Challenge.rw_threeproofs_k83_no_texts_of_worlds).prog) (w := w) 100 KX G hmg c
      exact ⟨K, fd, fun vs H Q _ => Ev.spF ⟨K, w, Ev.cAd K Hd.cn⟩ (Ev.callN Pg.fns (Ev.isaX 5) 100 29) vs H Q fun _ _ _ => False, KX, hb, fun H a ns hl hO hS => Ev.law_sp hO hS (HH ns hl), fun base _ _ => Ev.fn_noX (hF base)⟩
end
theorem PySem.Challenge.cw_threeproofs_k83_no_texts_of_worlds_holds : PySem.Challenge.rw_threeproofs_k83_no_texts_of_worlds.Holds := by
  exact holds_of fun ns hl => Pg.c_law (n := 88)
