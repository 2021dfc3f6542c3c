import PyProof.Rows.All
import Wide.All
import OpenK.AllK
import Wide.FinOn
import HandS.ForMost
import HandS.Exc
import HandS.ExcOwn
import HandS.CallSlots
import HandS.Wide
import HandS.Zip
import HandS.TupAny
import HandS.TupMul
import HandS.Deep
import HandS.TupLe
import HandS.IsInst
import HandS.More
import HandS.Flow
import HandS.Comp
import HandS.ExcInit
import KE.KExcInit
import HandS.WordsExc
import PySem.Challenge.RW_barringrings_k77_mutated_state_texts
import HandS.Text
import PyProof.FitsInt
set_option Elab.async false
set_option linter.all false
set_option maxRecDepth 100000
/-! Mp1: a small Python of our own: values, heaps, syntax trees without positions, and a total evaluator. -/
namespace MP
open PySem (Str PyData)

/-- the most items of a list, a tuple, a text -/
abbrev SL : Nat := 16777216

inductive D where
  | non | bl (b : Bool) | int (i : Int) | str (s : Str) | tup (l : List D) | ref (n : Nat) | fn (f : Nat) | frz (l : List D)
  deriving Inhabited

inductive Ob where
  | lst (l : List D)
  | dct (kvs : List (D × D))
  | ins (C : Nat) (fs : List (Nat × D))
  deriving Inhabited

abbrev Hh := List Ob
abbrev PEnv := List (Option D)

structure Exn where
  cls : Nat
  fs : List (Nat × D)

inductive Rs (α : Type) where
  | ok (a : α) (h : Hh)
  | ex (e : Exn) (h : Hh)
  | st

def Rs.bind {α β : Type} (r : Rs α) (f : α → Hh → Rs β) : Rs β :=
  match r with
  | .ok a h => f a h
  | .ex e h => .ex e h
  | .st => .st

def Rs.lift {α : Type} (o : Option α) (h : Hh) : Rs α :=
  match o with
  | some a => .ok a h
  | none => .st

inductive Bop where
  | add | sub | mul | fdiv | mod | pow | band
  deriving DecidableEq
inductive Cop where
  | eq | ne | lt | le | gt | ge | inn | nin
  deriving DecidableEq
inductive Bf where
  | len | abs | min | max | mind | int | str | list | tuple | all | any | sum | sorted | sum2 | repr
  deriving DecidableEq
inductive Bm where
  | append | pop | insert | extend | update | getD | index | split | join | count | clear | replace
  deriving DecidableEq
inductive Ty where
  | int | bool | str | tuple | list | cls (c : Nat)
  deriving DecidableEq

mutual
inductive E where
  | slot (i : Nat) | int (i : Int) | str (s : Str) | bl (b : Bool) | non
  | con (d : D)
  | bin (o : Bop) (a b : E) | neg (a : E)
  | not (a : E) | and (a b : E) | or (a b : E)
  | isN (a : E) | notN (a : E)
  | cmp (o : Cop) (a b : E) | chn (o o' : Cop) (a b c : E)
  | ite (c a b : E)
  | tup (es : Es) | lst (es : Es)
  | ix (a i : E) | sl (a : E) (lo hi : Eo) | rev (a : E)
  | call (f : Nat) (es : Es) | mk (C : Nat) (es : Es) | meth (a : E) (m : Nat) (es : Es)
  | bif (b : Bf) (es : Es) | bm (m : Bm) (a : E) (es : Es)
  | isi (a : E) (ts : List Ty)
  | fld (a : E) (f : Nat)
  | xf (f : Nat)
  | lc (elt : E) (tg : Tg) (it : It) (c : Eo) (own : List Nat)
  | dsp (ks vs : Es)
inductive Es where
  | nil | cons (e : E) (es : Es)
inductive Eo where
  | no | so (e : E)
inductive It where
  | seq (e : E) | rng1 (a : E) | rng2 (a b : E) | enum (a : E) | zip (s : Bool) (a b : E) | rev (a : E)
inductive Tg where
  | nm (i : Nat) | tp (ts : Tgs)
inductive Tgs where
  | nil | cons (t : Tg) (ts : Tgs)
end

mutual
inductive S where
  | asg (tg : Tg) (e : E)
  | fst (o : E) (f : Nat) (e : E)
  | ixs (o i e : E)
  | exp (e : E)
  | ret (e : E) | retn
  | ife (c : E) (a b : Ss)
  | whl (c : E) (b : Ss)
  | for_ (tg : Tg) (it : It) (b : Ss)
  | rai (C : Nat) (es : Es)
  | try_ (b : Ss) (hs : Hs)
  | pass | brk | cont
inductive Ss where
  | nil | cons (s : S) (ss : Ss)
inductive Hs where
  | nil | cons (C : Nat) (i : Option Nat) (b : Ss) (hs : Hs)
end

/-- a def: how many parameters, how many slots, its body -/
structure Fd where
  ar : Nat
  ns : Nat
  body : Ss

structure Tb where
  fn : Nat → Option Fd
  me : Nat → Nat → Option Nat
  ini : Nat → Option Nat
  xf : Nat → Option (List Nat)
  sub : Nat → Nat → Bool

/-! ### values -/
def tru (h : Hh) : D → Option Bool
  | .non => some false
  | .bl b => some b
  | .int i => some (i != 0)
  | .str s => if s.length ≤ SL then some ((s.length : Int) != 0) else none
  | .tup l => some (!l.isEmpty)
  | .ref n => match h[n]? with
    | some (.lst l) => some (!l.isEmpty)
    | _ => none
  | .fn _ => none
  | .frz l => some (!l.isEmpty)

mutual
/-- the data that a value stands for -/
def pd (h : Hh) : Nat → D → Option PyData
  | _, .non => some .none
  | _, .bl b => some (.bool b)
  | _, .int i => some (.int i)
  | _, .str s => some (.str s)
  | 0, _ => none
  | k + 1, .tup l => (pds h k l).map .tuple
  | k + 1, .ref n => match h[n]? with
    | some (.lst l) => (pds h k l).map .list
    | _ => none
  | k + 1, .frz l => (pds h k l).map .list
  | _, .fn _ => none
def pds (h : Hh) : Nat → List D → Option (List PyData)
  | _, [] => some []
  | k, d :: ds => match pd h k d, pds h k ds with
    | some x, some xs => some (x :: xs)
    | _, _ => none
end

def eqD0 (h : Hh) (a b : D) : Option Bool :=
  match pd h 60 a, pd h 60 b with
  | some x, some y => if PySem.SeqAt.shaped x && PySem.SeqAt.shaped y then some (PyData.eqv x y) else none
  | _, _ => none
def eqD (h : Hh) (a b : D) : Option Bool :=
  match a, b with
  | .str x, .str y => some (x == y)
  | a, b => eqD0 h a b

def addD (a b : D) (h : Hh) : Rs D :=
  match a, b with
  | .int i, .int j => .ok (.int (i + j)) h
  | .str x, .str y => if x.length + y.length ≤ SL then .ok (.str (x ++ y)) h else .st
  | .tup x, .tup y => if x.length + y.length ≤ SL then .ok (.tup (x ++ y)) h else .st
  | .ref m, .ref n => match h[m]?, h[n]? with
    | some (.lst x), some (.lst y) => if x.length + y.length ≤ SL then .ok (.ref h.length) (h ++ [.lst (x ++ y)]) else .st
    | _, _ => .st
  | _, _ => .st
def mulD (a b : D) (h : Hh) : Rs D :=
  match a, b with
  | .int i, .int j => if i.natAbs < 2 ^ 64 || j.natAbs < 2 ^ 64 || i.natAbs.log2 + j.natAbs.log2 < 1000000 then .ok (.int (i * j)) h else .st
  | .tup x, .int k => if !x.isEmpty && 2 ≤ k && k ≤ 1000 && x.length ≤ 1000 then .ok (.tup ((List.replicate k.toNat x).flatten)) h else .st
  | .ref m, .int k => match h[m]? with
    | some (.lst x) => if k < 2 ^ 62 && -(2 ^ 62) < k && x.length * k.toNat ≤ SL then .ok (.ref h.length) (h ++ [.lst ((List.replicate k.toNat x).flatten)]) else .st
    | _ => .st
  | .str x, .int k => if 2 ≤ k && 0 < x.length && x.length * k.toNat ≤ SL then .ok (.str ⟨((List.replicate k.toNat x.cps.toList).flatten).toArray⟩) h else .st
  | _, _ => .st
/-- an operation on two ints, under a test -/
def intD (c : Int → Int → Bool) (f : Int → Int → Int) (a b : D) (h : Hh) : Rs D :=
  match a, b with
  | .int i, .int j => if c i j then .ok (.int (f i j)) h else .st
  | _, _ => .st
def binD (o : Bop) : D → D → Hh → Rs D :=
  match o with
  | .add => addD
  | .sub => intD (fun _ _ => true) fun i j => i - j
  | .mul => mulD
  | .fdiv => intD (fun _ j => 0 < j && j.natAbs.log2 < 9000) fun i j => i / j
  | .mod => intD (fun _ j => 0 < j) fun i j => i % j
  | .pow => intD (fun i j => 0 ≤ j && j ≤ 1000000 && i.natAbs < 2 ^ 64) fun i j => i ^ j.toNat
  | .band => intD (fun _ _ => true) fun i j => PySem.Builtin.bitAnd i j

/-- the items of a list or a tuple -/
def seqD (h : Hh) : D → Option (List D)
  | .tup l => some l
  | .frz l => some l
  | .ref n => match h[n]? with
    | some (.lst l) => some l
    | _ => none
  | _ => none
def lstD (h : Hh) : D → Option (List D)
  | .frz l => some l
  | .ref n => match h[n]? with
    | some (.lst l) => some l
    | _ => none
  | _ => none

def flatD : D → Bool
  | .non | .bl _ | .int _ | .str _ => true
  | _ => false
/-- a in b -/
def inD (h : Hh) (a b : D) : Option Bool :=
  match b with
  | .tup l => if flatD a && l.all flatD then
      match pd h 1 a, pds h 1 l with
      | some d, some ds => some (ds.any fun z => PyData.eqv z d)
      | _, _ => none
    else none
  | .str z => match a with
    | .str c => some (!(PySem.Builtin.Str.occurrences z c 0 z.length 1).isEmpty)
    | _ => none
  | b => match lstD h b with
    | some l => match pd h 60 a, pds h 59 l with
      | some d, some ds => if PySem.SeqAt.shaped d && PySem.SeqAt.shaped (.list ds) then some (ds.any fun z => PyData.eqv z d) else none
      | _, _ => none
    | none => none

/-- a comparison of two ints -/
def icmpD (f : Int → Int → Bool) (a b : D) (h : Hh) : Rs D :=
  match a, b with
  | .int i, .int j => .ok (.bl (f i j)) h
  | _, _ => .st
def isE : D → D → Hh → Rs D := fun a b h => Rs.lift ((eqD h a b).map .bl) h
def cmpD (o : Cop) : D → D → Hh → Rs D :=
  match o with
  | .lt => icmpD fun i j => decide (i < j)
  | .le => icmpD fun i j => decide (i ≤ j)
  | .gt => icmpD fun i j => decide (j < i)
  | .ge => icmpD fun i j => decide (j ≤ i)
  | .eq => fun a b h => Rs.lift ((eqD h a b).map .bl) h
  | .ne => fun a b h => Rs.lift ((eqD h a b).map fun c => .bl (!c)) h
  | .inn => fun a b h => Rs.lift ((inD h a b).map .bl) h
  | .nin => fun a b h => Rs.lift ((inD h a b).map fun c => .bl (!c)) h

def ixD (a i : D) (h : Hh) : Rs D :=
  match a, i with
  | .tup l, .int i => Rs.lift (L2.atI l i) h
  | .ref n, .int i => match h[n]? with
    | some (.lst l) => Rs.lift (L2.atI l i) h
    | _ => .st
  | .frz l, .int i => Rs.lift (L2.atI l i) h
  | .str s, .int i => if s.length ≤ SL then Rs.lift ((L2.atI s.cps.toList i).map fun c => D.str ⟨#[c]⟩) h else .st
  | _, _ => .st

/-- the items of a slice with step one -/
def cutL {α : Type} (l : List α) (lo hi : Option Int) : List α :=
  (l.drop (HT.sIx l.length 0 lo)).take (HT.sIx l.length l.length hi - HT.sIx l.length 0 lo)

def slD (a : D) (lo hi : Option Int) (h : Hh) : Rs D :=
  match a with
  | .tup l => .ok (.tup (cutL l lo hi)) h
  | .ref n => match h[n]? with
    | some (.lst l) => .ok (.ref h.length) (h ++ [.lst (cutL l lo hi)])
    | _ => .st
  | .frz l => .ok (.ref h.length) (h ++ [.lst (cutL l lo hi)])
  | .str s => if s.length ≤ SL then .ok (.str (L2.cutS s lo hi)) h else .st
  | _ => .st

def revD (a : D) (h : Hh) : Rs D :=
  match a with
  | .tup l => .ok (.tup l.reverse) h
  | .ref n => match h[n]? with
    | some (.lst l) => .ok (.ref h.length) (h ++ [.lst l.reverse]) 
    | _ => .st
  | _ => .st

def dInts : List D → Option (List Int)
  | [] => some []
  | .int i :: r => (dInts r).map (i :: ·)
  | _ => none
def dBls : List D → Option (List Bool)
  | [] => some []
  | .bl b :: r => (dBls r).map (b :: ·)
  | _ => none

def dStrs : List D → Option (List Str)
  | [] => some []
  | .str b :: r => (dStrs r).map (b :: ·)
  | _ => none

def maxI : Int → List Int → Int
  | m, [] => m
  | m, x :: xs => maxI (if m < x then x else m) xs
def minI : Int → List Int → Int
  | m, [] => m
  | m, x :: xs => minI (if x < m then x else m) xs

/-! built-ins of given values -/
def lenD (as : List D) (h : Hh) : Rs D :=
  match as with
  | [.str s] => if s.length ≤ SL then .ok (.int s.length) h else .st
  | [.tup l] => .ok (.int l.length) h
  | [.frz l] => .ok (.int l.length) h
  | [.ref n] => match h[n]? with
    | some (.lst l) => .ok (.int l.length) h
    | some (.dct kvs) => .ok (.int kvs.length) h
    | _ => .st
  | _ => .st
def absD (as : List D) (h : Hh) : Rs D :=
  match as with
  | [.int i] => .ok (.int (if i < 0 then -i else i)) h
  | _ => .st
def maxD (as : List D) (h : Hh) : Rs D :=
  match as with
  | [.int i, .int j] => .ok (.int (if j > i then j else i)) h
  | [a] => match (lstD h a).bind dInts with
    | some (n :: ns) => .ok (.int (maxI n ns)) h
    | _ => .st
  | _ => .st
def minD (as : List D) (h : Hh) : Rs D :=
  match as with
  | [.int i, .int j] => .ok (.int (if j < i then j else i)) h
  | [a] => match (lstD h a).bind dInts with
    | some (n :: ns) => .ok (.int (minI n ns)) h
    | _ => .st
  | _ => .st
def mindD (as : List D) (h : Hh) : Rs D :=
  match as with
  | [a, d] => match (lstD h a).bind dInts with
    | some (n :: ns) => .ok (.int (minI n ns)) h
    | some [] => .ok d h
    | _ => .st
  | _ => .st
def intOfD (as : List D) (h : Hh) : Rs D :=
  match as with
  | [.int i] => .ok (.int i) h
  | [.bl b] => .ok (.int (if b then 1 else 0)) h
  | [.str s] => if s.length ≤ 640 then Rs.lift ((PySem.intText? s).map .int) h else .st
  | _ => .st
def strOfD (as : List D) (h : Hh) : Rs D :=
  match as with
  | [.int i] => if i.natAbs.log2 < 1920 then .ok (.str (toString i)) h else .st
  | _ => .st
def listOfD (as : List D) (h : Hh) : Rs D :=
  match as with
  | [a] => match seqD h a with
    | some l => .ok (.ref h.length) (h ++ [.lst l])
    | none => .st
  | _ => .st
def tupleOfD (as : List D) (h : Hh) : Rs D :=
  match as with
  | [a] => match seqD h a with
    | some l => .ok (.tup l) h
    | none => .st
  | _ => .st
def allD (as : List D) (h : Hh) : Rs D :=
  match as with
  | [a] => match (lstD h a).bind dBls with
    | some bs => .ok (.bl (bs.all id)) h
    | none => .st
  | _ => .st
def anyD (as : List D) (h : Hh) : Rs D :=
  match as with
  | [a] => match (lstD h a).bind dBls with
    | some bs => .ok (.bl (bs.any id)) h
    | none => .st
  | _ => .st
def sumD (as : List D) (h : Hh) : Rs D :=
  match as with
  | [a] => match (lstD h a).bind dInts with
    | some ns => .ok (.int ns.sum) h
    | none => .st
  | _ => .st
def bifD (b : Bf) : List D → Hh → Rs D :=
  match b with
  | .len => lenD
  | .abs => absD
  | .max => maxD
  | .min => minD
  | .mind => mindD
  | .int => intOfD
  | .str => strOfD
  | .list => listOfD
  | .tuple => tupleOfD
  | .all => allD
  | .any => anyD
  | .sum => sumD
  | _ => fun _ _ => .st

def tyD (h : Hh) (a : D) (t : Ty) : Option Bool :=
  match a with
  | .fn _ => none
  | .non => some false
  | .bl _ => some (t == .int || t == .bool)
  | .int _ => some (t == .int)
  | .str _ => some (t == .str)
  | .tup _ => some (t == .tuple)
  | .frz _ => some (t == .list)
  | .ref n => match h[n]? with
    | none => none
    | some (.lst _) => some (t == .list)
    | some (.dct _) => some false
    | some (.ins C _) => some (t == .cls C)
def tysD (h : Hh) (a : D) : List Ty → Option Bool
  | [] => some false
  | t :: ts => match tyD h a t with
    | some true => some true
    | some false => tysD h a ts
    | none => none

def putFs (f : Nat) (d : D) : List (Nat × D) → List (Nat × D)
  | [] => [(f, d)]
  | (g, e) :: r => if g = f then (g, d) :: r else (g, e) :: putFs f d r

/-! the methods of built-in things -/
def appendD (a : D) (as : List D) (h : Hh) : Rs D :=
  match a, as with
  | .ref n, [x] => match h[n]? with
    | some (.lst l) => if l.length < SL then .ok .non (h.set n (.lst (l ++ [x]))) else .st
    | _ => .st
  | _, _ => .st
def popD (a : D) (as : List D) (h : Hh) : Rs D :=
  match a, as with
  | .ref n, [] => match h[n]? with
    | some (.lst l) => match l.getLast? with
      | some x => .ok x (h.set n (.lst l.dropLast))
      | none => .st
    | _ => .st
  | .ref n, [.int i] => match h[n]? with
    | some (.lst l) => match L2.ixN l.length i with
      | some k => match l[k]? with
        | some x => .ok x (h.set n (.lst (l.eraseIdx k)))
        | none => .st
      | none => .st
    | _ => .st
  | _, _ => .st
def insertD (a : D) (as : List D) (h : Hh) : Rs D :=
  match a, as with
  | .ref n, [.int i, x] => match h[n]? with
    | some (.lst l) => if 0 ≤ i && i < 2 ^ 62 && l.length < SL then .ok .non (h.set n (.lst (l.take i.toNat ++ [x] ++ l.drop i.toNat))) else .st
    | _ => .st
  | _, _ => .st
def extendD (a : D) (as : List D) (h : Hh) : Rs D :=
  match a, as with
  | .ref n, [.ref k] => match h[n]?, h[k]? with
    | some (.lst l), some (.lst l2) => if l.length + l2.length ≤ SL then .ok .non (h.set n (.lst (l ++ l2))) else .st
    | _, _ => .st
  | _, _ => .st
def splitD (a : D) (as : List D) (h : Hh) : Rs D :=
  match a, as with
  | .str s, [.str z] => if z.length != 0 && s.length + 2 ≤ SL then .ok (.ref h.length) (h ++ [.lst ((PySem.Txt.split s z).map .str)]) else .st
  | _, _ => .st
def joinD (a : D) (as : List D) (h : Hh) : Rs D :=
  match a, as with
  | .str s, [b] => match (seqD h b).bind dStrs with
    | some ys => if (ys.map (·.length)).sum + ys.length * s.length ≤ SL then .ok (.str (PySem.Txt.join s ys)) h else .st
    | none => .st
  | _, _ => .st
def bmD (m : Bm) : D → List D → Hh → Rs D :=
  match m with
  | .append => appendD
  | .pop => popD
  | .insert => insertD
  | .extend => extendD
  | .split => splitD
  | .join => joinD
  | _ => fun _ _ _ => .st

mutual
def bindTg : Tg → D → PEnv → Option PEnv
  | .nm i, d, ρ => if i < ρ.length then some (ρ.set i (some d)) else none
  | .tp ts, .tup l, ρ => bindTgs ts l ρ
  | .tp _, _, _ => none
def bindTgs : Tgs → List D → PEnv → Option PEnv
  | .nil, [], ρ => some ρ
  | .cons t ts, d :: ds, ρ => (bindTg t d ρ).bind fun ρ' => bindTgs ts ds ρ'
  | _, _, _ => none
end

def wipeE (ρ : PEnv) : List Nat → PEnv
  | [] => ρ
  | i :: is => (wipeE ρ is).set i none


/-- an iterator: at turn i it gives an item, or it stops -/
abbrev Nxt := Hh → Nat → Option (Option D)
/-- an evaluated iterator: its fuel, its turns -/
structure Itr where
  fuel : Nat
  nxt : Nxt

def lstNx (n : Nat) : Nxt := fun h i => match h[n]? with
  | some (.lst l) => some l[i]?
  | _ => none
def itSeq (d : D) (h : Hh) : Rs Itr :=
  match d with
  | .frz l => .ok ⟨l.length, fun _ i => some l[i]?⟩ h
  | .tup l => .ok ⟨l.length, fun _ i => some l[i]?⟩ h
  | .str s => .ok ⟨s.length, fun _ i => some ((s.cps[i]?).map fun c => .str ⟨#[c]⟩)⟩ h
  | .ref n => match h[n]? with
    | some (.lst l) => .ok ⟨l.length, lstNx n⟩ h
    | _ => .st
  | _ => .st
def itRng (lo hi : Int) (h : Hh) : Rs Itr :=
  if -(2 ^ 62) ≤ lo && lo < 2 ^ 62 && -(2 ^ 62) ≤ hi && hi < 2 ^ 62 then
    .ok ⟨(hi - lo).toNat, fun _ i => some (if i < (hi - lo).toNat then some (.int (lo + (i : Int))) else none)⟩ h
  else .st

def Rs.toBool (r : Rs D) (h0 : Hh → D → Option Bool) : Rs Bool :=
  match r with
  | .ok d h => match h0 h d with
    | some b => .ok b h
    | none => .st
  | .ex e h => .ex e h
  | .st => .st

/-- the turns of a comprehension: f gives the item (or none: the test failed) -/
def lcLoop (nxt : Nxt) (f : D → Hh → Rs (Option D)) : Nat → Nat → List D → Hh → Rs D
  | 0, i, acc, h => match nxt h i with
    | some none => .ok (.ref h.length) (h ++ [.lst acc])
    | _ => .st
  | k + 1, i, acc, h => match nxt h i with
    | some none => .ok (.ref h.length) (h ++ [.lst acc])
    | some (some x) => match f x h with
      | .ok (some y) h' => if acc.length < SL then lcLoop nxt f k (i + 1) (acc ++ [y]) h' else .st
      | .ok none h' => lcLoop nxt f k (i + 1) acc h'
      | _ => .st
    | none => .st

inductive Fl where
  | nx (ρ : PEnv) | rt (d : D) | bk (ρ : PEnv) | ct (ρ : PEnv)
inductive Sr where
  | ok (f : Fl) (h : Hh)
  | ex (e : Exn) (ρ : PEnv) (h : Hh)
  | st

def Rs.toS {α : Type} (r : Rs α) (ρ : PEnv) (f : α → Hh → Sr) : Sr :=
  match r with
  | .ok a h => f a h
  | .ex e h => .ex e ρ h
  | .st => .st

/-! what follows the parts of an expression -/
def negK (x : D) (h : Hh) : Rs D := match x with
  | .int i => .ok (.int (-i)) h
  | _ => .st
def isNon : D → Bool
  | .non => true
  | _ => false
def isNK (x : D) (h : Hh) : Rs D := .ok (.bl (isNon x)) h
def notNK (x : D) (h : Hh) : Rs D := .ok (.bl (!isNon x)) h
def andK (g : Hh → Rs D) (x : D) (h : Hh) : Rs D := match x with
  | .bl true => g h
  | .bl false => .ok (.bl false) h
  | _ => .st
def orK (g : Hh → Rs D) (x : D) (h : Hh) : Rs D := match x with
  | .bl true => .ok (.bl true) h
  | .bl false => g h
  | _ => .st
def tupK (ds : List D) (h : Hh) : Rs D := if ds.length ≤ SL then .ok (.tup ds) h else .st
def lstK (ds : List D) (h : Hh) : Rs D := if ds.length ≤ SL then .ok (.ref h.length) (h ++ [.lst ds]) else .st
def truK (x : D) (h : Hh) : Rs Bool := Rs.lift (tru h x) h
def blK (x : D) (h : Hh) : Rs Bool := match x with
  | .bl b => .ok b h
  | _ => .st
def intK (x : D) (h : Hh) : Rs (Option Int) := match x with
  | .int i => .ok (some i) h
  | _ => .st
def mkEnd (n : Nat) (d : D) (h : Hh) : Rs D := match d with
  | .non => .ok (.ref n) h
  | _ => .st
def mkK (cf : Nat → List D → Hh → Rs D) (C : Nat) (o : Option Nat) (ds : List D) (h : Hh) : Rs D := match o with
  | some f => (cf f (.ref h.length :: ds) (h ++ [.ins C []])).bind (mkEnd h.length)
  | none => .st
/-- the def that a method of an object is -/
def methF (tb : Tb) (m : Nat) (x : D) (h : Hh) : Option (Nat × Nat) := match x with
  | .ref n => match h[n]? with
    | some (.ins C fs) => match fs.lookup m, tb.me C m with
      | none, some f => some (n, f)
      | _, _ => none
    | _ => none
  | _ => none
def methK (cf : Nat → List D → Hh → Rs D) (tb : Tb) (m : Nat) (g : Hh → Rs (List D)) (x : D) (h : Hh) : Rs D := match methF tb m x h with
  | some (n, f) => (g h).bind fun ds h2 => cf f (.ref n :: ds) h2
  | none => .st
def isLst (h : Hh) : D → Bool
  | .ref n => match h[n]? with
    | some (.lst _) => true
    | _ => false
  | _ => false
def isDct (h : Hh) : D → Bool
  | .ref n => match h[n]? with
    | some (.dct _) => true
    | _ => false
  | _ => false
def isStrD : D → Bool
  | .str _ => true
  | _ => false
def bmOk (m : Bm) (h : Hh) (x : D) : Bool := match m with
  | .split | .join | .replace => isStrD x
  | .update | .getD => isDct h x
  | _ => isLst h x
def bmK (m : Bm) (g : Hh → Rs (List D)) (x : D) (h : Hh) : Rs D := if bmOk m h x then (g h).bind (bmD m x) else .st
def fldK (f : Nat) (x : D) (h : Hh) : Rs D := match x with
  | .ref n => match h[n]? with
    | some (.ins _ fs) => Rs.lift (fs.lookup f) h
    | _ => .st
  | _ => .st
def isiK (ts : List Ty) (x : D) (h : Hh) : Rs D := Rs.lift ((tysD h x ts).map .bl) h
def rngK1 (x : D) (h : Hh) : Rs Itr := match x with
  | .int j => itRng 0 j h
  | _ => .st
def rngK2 (x y : D) (h : Hh) : Rs Itr := match x, y with
  | .int i, .int j => itRng i j h
  | _, _ => .st
def enumK (J : Itr) (h : Hh) : Rs Itr := .ok ⟨J.fuel, fun h i => (J.nxt h i).map fun o => o.map fun x => .tup [.int (i : Int), x]⟩ h
def zipN (s : Bool) (J K : Itr) : Nxt := fun h i => match J.nxt h i, K.nxt h i with
  | some (some u), some (some v) => some (some (.tup [u, v]))
  | some none, some none => some none
  | some _, some _ => if s then none else some none
  | _, _ => none
def zipK (s : Bool) (J K : Itr) (h : Hh) : Rs Itr := .ok ⟨min J.fuel K.fuel, zipN s J K⟩ h

def lcTurn (tg : Tg) (own : List Nat) (fc : PEnv → Hh → Rs Bool) (fe : PEnv → Hh → Rs D) (ρ : PEnv) (x : D) (h2 : Hh) : Rs (Option D) := match bindTg tg x (wipeE ρ own) with
  | none => .st
  | some ρ' => (fc ρ' h2).bind fun k h3 => if k then (fe ρ' h3).bind fun y h4 => .ok (some y) h4 else .ok none h3
/-- the target of an assignment, in our evaluator -/
def asgK (tg : Tg) (ρ : PEnv) (d : D) (h : Hh) : Sr := match bindTg tg d ρ with
  | some ρ' => .ok (.nx ρ') h
  | none => .st
def seqK (g : PEnv → Hh → Sr) (r : Sr) : Sr := match r with
  | .ok (.nx ρ') h' => g ρ' h'
  | r => r
def forBody (tg : Tg) (g1 : PEnv → Hh → Sr) (x : D) (ρ : PEnv) (h : Hh) : Sr := match bindTg tg x ρ with
  | some ρ' => g1 ρ' h
  | none => .st
/-- o.f = e -/
def fstK (f : Nat) (ρ : PEnv) (d x : D) (h : Hh) : Sr := match x with
  | .ref n => match h[n]? with
    | some (.ins C fs) => if fs.length < 100 then .ok (.nx ρ) (h.set n (.ins C (putFs f d fs))) else .st
    | _ => .st
  | _ => .st
/-- o[i] = e, a list -/
def ixsK (ρ : PEnv) (d x y : D) (h : Hh) : Sr := match x, y with
  | .ref n, .int k => match h[n]? with
    | some (.lst l) => match L2.ixN l.length k with
      | some j => .ok (.nx ρ) (h.set n (.lst (l.set j d)))
      | none => .st
    | _ => .st
  | _, _ => .st
/-- raise C(ds) -/
def raiK (tb : Tb) (C : Nat) (ρ : PEnv) (ds : List D) (h : Hh) : Sr := match tb.xf C with
  | some fs => if fs.length == ds.length then .ex ⟨C, fs.zip ds⟩ ρ h else .st
  | none => .st
/-- a handler's end: its name goes -/
def endK (i : Nat) (r : Sr) : Sr := match r with
  | .ok (.nx ρ') h' => .ok (.nx (ρ'.set i none)) h'
  | .ok (.bk ρ') h' => .ok (.bk (ρ'.set i none)) h'
  | .ok (.ct ρ') h' => .ok (.ct (ρ'.set i none)) h'
  | .ok (.rt d) h' => .ok (.rt d) h'
  | _ => .st
def hdlK (i : Option Nat) (ρ : PEnv) (f : PEnv → Sr) : Sr := match i with
  | some i => if i < ρ.length then endK i (f (ρ.set i none)) else .st
  | none => match f ρ with
    | .ex _ _ _ => .st
    | r => r
def tryK (g : Exn → PEnv → Hh → Sr) (r : Sr) : Sr := match r with
  | .ex e ρ' h' => g e ρ' h'
  | r => r

def slotK (i : Nat) (ρ : PEnv) (h : Hh) : Rs D := match ρ[i]? with
  | some (some d) => .ok d h
  | _ => .st
def isTupD : D → Bool
  | .tup _ => true
  | _ => false
def zipOk (h : Hh) (x y : D) : Bool := ((lstD h x).isSome && (lstD h y).isSome) || (isTupD x && isTupD y)
def zipI (s : Bool) (x y : D) (h : Hh) : Rs Itr := if !s && zipOk h x y then (itSeq x h).bind fun J h3 => (itSeq y h3).bind (zipK s J) else .st

section
variable (cf : Nat → List D → Hh → Rs D) (tb : Tb) (cur : Option Exn)

mutual
def ev : E → PEnv → Hh → Rs D
  | .slot i, ρ, h => slotK i ρ h
  | .int i, _, h => .ok (.int i) h
  | .str s, _, h => .ok (.str s) h
  | .bl b, _, h => .ok (.bl b) h
  | .non, _, h => .ok .non h
  | .con d, _, h => .ok d h
  | .bin o a b, ρ, h => (ev a ρ h).bind fun x h1 => (ev b ρ h1).bind fun y h2 => binD o x y h2
  | .neg a, ρ, h => (ev a ρ h).bind negK
  | .not a, ρ, h => ((ev a ρ h).bind truK).bind fun b h1 => .ok (.bl (!b)) h1
  | .and a b, ρ, h => (ev a ρ h).bind (andK (ev b ρ))
  | .or a b, ρ, h => (ev a ρ h).bind (orK (ev b ρ))
  | .isN a, ρ, h => (ev a ρ h).bind isNK
  | .notN a, ρ, h => (ev a ρ h).bind notNK
  | .cmp o a b, ρ, h => (ev a ρ h).bind fun x h1 => (ev b ρ h1).bind fun y h2 => cmpD o x y h2
  | .chn o o' a b c, ρ, h => (ev a ρ h).bind fun x h1 => (ev b ρ h1).bind fun y h2 => (cmpD o x y h2).bind (andK fun h3 => (ev c ρ h3).bind fun u h4 => cmpD o' y u h4)
  | .ite c a b, ρ, h => (evT c ρ h).bind fun k h1 => if k then ev a ρ h1 else ev b ρ h1
  | .tup es, ρ, h => (evs es ρ h).bind tupK
  | .lst es, ρ, h => (evs es ρ h).bind lstK
  | .ix a i, ρ, h => (ev a ρ h).bind fun x h1 => (ev i ρ h1).bind fun y h2 => ixD x y h2
  | .sl a lo hi, ρ, h => (ev a ρ h).bind fun x h1 => (evo lo ρ h1).bind fun l h2 => (evo hi ρ h2).bind fun u h3 => slD x l u h3
  | .rev a, ρ, h => (ev a ρ h).bind revD
  | .call f es, ρ, h => (evs es ρ h).bind (cf f)
  | .mk C es, ρ, h => (evs es ρ h).bind (mkK cf C (tb.ini C))
  | .meth a m es, ρ, h => (ev a ρ h).bind (methK cf tb m (evs es ρ))
  | .bif b es, ρ, h => (evs es ρ h).bind (bifD b)
  | .bm m a es, ρ, h => (ev a ρ h).bind (bmK m (evs es ρ))
  | .isi a ts, ρ, h => (ev a ρ h).bind (isiK ts)
  | .fld a f, ρ, h => (ev a ρ h).bind (fldK f)
  | .xf f, _, h => Rs.lift (cur.bind fun e => e.fs.lookup f) h
  | .lc elt tg it c own, ρ, h => (evIt it ρ h).bind fun J h1 => lcLoop J.nxt (lcTurn tg own (evC c) (ev elt) ρ) J.fuel 0 [] h1
  | .dsp _ _, _, _ => .st
def evT : E → PEnv → Hh → Rs Bool
  | .not a, ρ, h => (evT a ρ h).bind fun b h1 => .ok (!b) h1
  | .and a b, ρ, h => (evT a ρ h).bind fun k h1 => if k then evT b ρ h1 else .ok false h1
  | .or a b, ρ, h => (evT a ρ h).bind fun k h1 => if k then .ok true h1 else evT b ρ h1
  | .cmp o a b, ρ, h => (ev (.cmp o a b) ρ h).bind blK
  | .chn o o' a b c, ρ, h => (ev (.chn o o' a b c) ρ h).bind blK
  | .isN a, ρ, h => (ev (.isN a) ρ h).bind blK
  | .notN a, ρ, h => (ev (.notN a) ρ h).bind blK
  | .ite _ _ _, _, _ => .st
  | e, ρ, h => (ev e ρ h).bind truK
def evC : Eo → PEnv → Hh → Rs Bool
  | .no, _, h => .ok true h
  | .so e, ρ, h => evT e ρ h
def evo : Eo → PEnv → Hh → Rs (Option Int)
  | .no, _, h => .ok none h
  | .so e, ρ, h => (ev e ρ h).bind intK
def evs : Es → PEnv → Hh → Rs (List D)
  | .nil, _, h => .ok [] h
  | .cons e es, ρ, h => (ev e ρ h).bind fun x h1 => (evs es ρ h1).bind fun xs h2 => .ok (x :: xs) h2
def evIt : It → PEnv → Hh → Rs Itr
  | .seq e, ρ, h => (ev e ρ h).bind itSeq
  | .rng1 a, ρ, h => (ev a ρ h).bind rngK1
  | .rng2 a b, ρ, h => (ev a ρ h).bind fun x h1 => (ev b ρ h1).bind (rngK2 x)
  | .enum a, ρ, h => (ev a ρ h).bind fun x h1 => (itSeq x h1).bind enumK
  | .zip s a b, ρ, h => (ev a ρ h).bind fun x h1 => (ev b ρ h1).bind fun y h2 => zipI s x y h2
  | .rev _, _, _ => .st
end

/-- the turns of a for -/
def forLoop (nxt : Nxt) (body : D → PEnv → Hh → Sr) : Nat → Nat → PEnv → Hh → Sr
  | 0, i, ρ, h => match nxt h i with
    | some none => .ok (.nx ρ) h
    | _ => .st
  | k + 1, i, ρ, h => match nxt h i with
    | some none => .ok (.nx ρ) h
    | some (some x) => match body x ρ h with
      | .ok (.nx ρ') h' => forLoop nxt body k (i + 1) ρ' h'
      | .ok (.ct ρ') h' => forLoop nxt body k (i + 1) ρ' h'
      | .ok (.bk ρ') h' => .ok (.nx ρ') h'
      | .ok (.rt d) h' => .ok (.rt d) h'
      | .ex e ρ' h' => .ex e ρ' h'
      | .st => .st
    | none => .st
/-- the turns of a while -/
def whlLoop (c : PEnv → Hh → Rs Bool) (body : PEnv → Hh → Sr) : Nat → PEnv → Hh → Sr
  | 0, _, _ => .st
  | k + 1, ρ, h => match c ρ h with
    | .ok false h1 => .ok (.nx ρ) h1
    | .ok true h1 => match body ρ h1 with
      | .ok (.nx ρ') h' => whlLoop c body k ρ' h'
      | .ok (.ct ρ') h' => whlLoop c body k ρ' h'
      | .ok (.bk ρ') h' => .ok (.nx ρ') h'
      | .ok (.rt d) h' => .ok (.rt d) h'
      | .ex e ρ' h' => .ex e ρ' h'
      | .st => .st
    | .ex e h1 => .ex e ρ h1
    | .st => .st

/-- the most turns of a while -/
abbrev WF : Nat := 1000000
end

section
variable (cf : Nat → List D → Hh → Rs D) (tb : Tb)

mutual
def ex : S → Option Exn → PEnv → Hh → Sr
  | .asg tg e, c, ρ, h => (ev cf tb c e ρ h).toS ρ (asgK tg ρ)
  | .fst o f e, c, ρ, h => (ev cf tb c e ρ h).toS ρ fun d h1 => (ev cf tb c o ρ h1).toS ρ (fstK f ρ d)
  | .ixs o i e, c, ρ, h => (ev cf tb c e ρ h).toS ρ fun d h1 => (ev cf tb c o ρ h1).toS ρ fun x h2 => (ev cf tb c i ρ h2).toS ρ (ixsK ρ d x)
  | .exp e, c, ρ, h => (ev cf tb c e ρ h).toS ρ fun _ h1 => .ok (.nx ρ) h1
  | .ret e, c, ρ, h => (ev cf tb c e ρ h).toS ρ fun d h1 => .ok (.rt d) h1
  | .retn, _, _, h => .ok (.rt .non) h
  | .ife e a b, c, ρ, h => (evT cf tb c e ρ h).toS ρ fun k h1 => if k then exs a c ρ h1 else exs b c ρ h1
  | .whl e b, c, ρ, h => whlLoop (evT cf tb c e) (exs b c) WF ρ h
  | .for_ tg it b, c, ρ, h => (evIt cf tb c it ρ h).toS ρ fun J h1 => forLoop J.nxt (forBody tg (exs b c)) J.fuel 0 ρ h1
  | .rai C es, c, ρ, h => (evs cf tb c es ρ h).toS ρ (raiK tb C ρ)
  | .try_ b hs, c, ρ, h => tryK (exh hs) (exs b c ρ h)
  | .pass, _, ρ, h => .ok (.nx ρ) h
  | .brk, _, ρ, h => .ok (.bk ρ) h
  | .cont, _, ρ, h => .ok (.ct ρ) h
def exs : Ss → Option Exn → PEnv → Hh → Sr
  | .nil, _, ρ, h => .ok (.nx ρ) h
  | .cons s ss, c, ρ, h => seqK (exs ss c) (ex s c ρ h)
def exh : Hs → Exn → PEnv → Hh → Sr
  | .nil, e, ρ, h => .ex e ρ h
  | .cons C i b hs, e, ρ, h =>
    if tb.sub e.cls C then hdlK i ρ fun ρ' => exs b (some e) ρ' h
    else exh hs e ρ h
end
end

/-- the values of the names ahead -/
def startE (n : Nat) (ds : List D) : PEnv := ds.map some ++ List.replicate (n - ds.length) none

/-- a def called, at most k calls within one another -/
def cal (tb : Tb) : Nat → Nat → List D → Hh → Rs D
  | 0, _, _, _ => .st
  | k + 1, f, ds, h => match tb.fn f with
    | none => .st
    | some fd => if ds.length == fd.ar then
        match exs (cal tb k) tb fd.body none (startE fd.ns ds) h with
        | .ok (.nx _) h' => .ok .non h'
        | .ok (.rt d) h' => .ok d h'
        | .ok _ _ => .st
        | .ex e _ h' => .ex e h'
        | .st => .st
      else .st

end MP

set_option Elab.async false
set_option linter.all false
set_option maxRecDepth 100000
set_option autoImplicit false
/-! Mp2: how a state of ours stands for a state of the model's. -/
namespace MP
open PySem PySem.Spec L2

/-- what stands at the addresses of m may change -/
def mutK : HO → Bool
  | .lst _ => true
  | .dK _ => true
  | .ins _ _ _ => true
  | _ => false
/-- the static part: the written part, where each def and class stands, the fields' names -/
structure Sta where
  K : PySem.W.Frag
  fA : Nat → Addr
  cA : Nat → Addr
  fN : Nat → Str
  cs : List Nat
  /-- exception classes -/
  xcs : List Nat
  /-- what is known beside (in a suite: of the exception) -/
  sx : List Addr → Hp → Prop
  sxm : ∀ m H m' H', (∀ (n : Nat) (a : Addr), m[n]? = some a → m'[n]? = some a) → (∀ a u, H a = some u → mutK u = false → H' a = some u) → sx m H → sx m' H'
  /-- slots that stay -/
  xs : List (Nat × V)

mutual
inductive VR (S : Sta) (m : List Addr) (H : Hp) : D → V → Prop
  | non : VR S m H .non .non
  | bl (b : Bool) : VR S m H (.bl b) (.bl b)
  | int (i : Int) : VR S m H (.int i) (.int i)
  | str (x : Str) : VR S m H (.str x) (.str x)
  | tup {a : Addr} {ds : List D} {vs : List V} : H a = some (.tup vs) → VRs S m H ds vs → VR S m H (.tup ds) (.ref a)
  | ref {n : Nat} {a : Addr} : m[n]? = some a → VR S m H (.ref n) (.ref a)
  | fn (f : Nat) : VR S m H (.fn f) (.ref (S.fA f))
  | frz {a : Addr} {ds : List D} {vs : List V} : ((∃ o, H a = some (.frz o (.lst vs))) ∨ ∃ (o : Obj) (its : Array Value) (n : Nat), S.K.lookup a = some o ∧ o.cls = .type "list" ∧ o.dict = none ∧ o.data = .seq its n ∧ its.size ≤ sizeLine ∧ Vals vs its.toList) → VRs S m H ds vs → VR S m H (.frz ds) (.ref a)
inductive VRs (S : Sta) (m : List Addr) (H : Hp) : List D → List V → Prop
  | nil : VRs S m H [] []
  | cons {d : D} {v : V} {ds : List D} {vs : List V} : VR S m H d v → VRs S m H ds vs → VRs S m H (d :: ds) (v :: vs)
end

/-- fields -/
inductive FR (S : Sta) (m : List Addr) (H : Hp) : List (Nat × D) → List (Str × V) → Prop
  | nil : FR S m H [] []
  | cons {f : Nat} {d : D} {v : V} {fs : List (Nat × D)} {vs : List (Str × V)} : VR S m H d v → FR S m H fs vs → FR S m H ((f, d) :: fs) ((S.fN f, v) :: vs)

/-- a key -/
def keyD : D → Option Key
  | .int i => some (.inl i)
  | .str s => some (.inr s)
  | _ => none
inductive KR (S : Sta) (m : List Addr) (H : Hp) : List (D × D) → List (Key × V) → Prop
  | nil : KR S m H [] []
  | cons {k : D} {k' : Key} {d : D} {v : V} {kvs : List (D × D)} {ws : List (Key × V)} : keyD k = some k' → VR S m H d v → KR S m H kvs ws → KR S m H ((k, d) :: kvs) ((k', v) :: ws)

def OR (S : Sta) (m : List Addr) (H : Hp) (a : Addr) : Ob → Prop
  | .lst l => ∃ vs, H a = some (.lst vs) ∧ VRs S m H l vs ∧ vs.length ≤ sizeLine
  | .dct kvs => ∃ ws, H a = some (.dK ws) ∧ KR S m H kvs ws
  | .ins C fs => C ∈ S.cs ∧ ∃ dx ws, H a = some (.ins (S.cA C) dx ws) ∧ FR S m H fs ws

structure HR (S : Sta) (m : List Addr) (H : Hp) (h : Hh) : Prop where
  len : m.length = h.length
  nd : m.Nodup
  ob : ∀ (i : Nat) (o : Ob), h[i]? = some o → ∃ a, m[i]? = some a ∧ OR S m H a o
  sx : S.sx m H

structure Ext (m : List Addr) (H : Hp) (m' : List Addr) (H' : Hp) : Prop where
  pre : ∃ k, m' = m ++ k ∧ ∀ a ∈ k, H a = none
  oth : ∀ b o, b ∉ m → H b = some o → H' b = some o

theorem Ext.refl (m : List Addr) (H : Hp) : Ext m H m H := ⟨⟨[], by simp, by simp⟩, fun _ _ _ e => e⟩

theorem OR.mut {S : Sta} {m : List Addr} {H : Hp} {a : Addr} {o : Ob} (x : OR S m H a o) : ∃ u, H a = some u ∧ mutK u = true := by
  cases o with
  | lst l => obtain ⟨vs, e, _⟩ := x; exact ⟨_, e, rfl⟩
  | dct l => obtain ⟨vs, e, _⟩ := x; exact ⟨_, e, rfl⟩
  | ins C fs => obtain ⟨_, dx, ws, e, _⟩ := x; exact ⟨_, e, rfl⟩
section
variable {S : Sta} {m m' m2 : List Addr} {H H' H2 : Hp} {h h' : Hh}
theorem HR.mem (x : HR S m H h) {a : Addr} (ha : a ∈ m) : ∃ u, H a = some u ∧ mutK u = true := by
  obtain ⟨i, hi, e⟩ := List.getElem_of_mem ha
  have hi' : i < h.length := by rw [← x.len]; exact hi
  obtain ⟨b, eb, o⟩ := x.ob i h[i] (by simp [hi'])
  have e2 : m[i]? = some a := by rw [List.getElem?_eq_getElem hi, e]
  rw [e2] at eb; cases eb
  exact o.mut
theorem HR.notin (x : HR S m H h) {a : Addr} {u : HO} (e : H a = some u) (n : mutK u = false) : a ∉ m := fun ha => by
  obtain ⟨u', e', m'⟩ := x.mem ha
  rw [e] at e'; cases e'
  rw [n] at m'; cases m'
theorem HR.fresh (x : HR S m H h) {a : Addr} (e : H a = none) : a ∉ m := fun ha => by
  obtain ⟨u', e', _⟩ := x.mem ha
  rw [e] at e'; cases e'
theorem Ext.get (x : Ext m H m' H') {n : Nat} {a : Addr} (e : m[n]? = some a) : m'[n]? = some a := by
  obtain ⟨k, e', _⟩ := x.pre
  rw [e', List.getElem?_append_left (List.getElem?_eq_some_iff.mp e).1]
  exact e
theorem Ext.keep (x : Ext m H m' H') (r : HR S m H h) {a : Addr} {u : HO} (e : H a = some u) (n : mutK u = false) : H' a = some u := x.oth _ _ (r.notin e n) e
theorem Ext.trans (x : Ext m H m' H') (r' : HR S m' H' h') (y : Ext m' H' m2 H2) : Ext m H m2 H2 := by
  obtain ⟨k, e1, f1⟩ := x.pre
  obtain ⟨k2, e2, f2⟩ := y.pre
  refine ⟨⟨k ++ k2, by rw [e2, e1, List.append_assoc], fun a ha => ?_⟩, fun b o nb e => ?_⟩
  · rcases List.mem_append.mp ha with ha | ha
    · exact f1 a ha
    · cases q : H a with
      | none => rfl
      | some o =>
        have q2 := f2 a ha
        by_cases hm : a ∈ m
        · obtain ⟨u, e, _⟩ := r'.mem (a := a) (by rw [e1]; exact List.mem_append_left _ hm)
          rw [q2] at e; cases e
        · rw [x.oth a o hm q] at q2; cases q2
  · refine y.oth b o (fun hb => ?_) (x.oth b o nb e)
    rw [e1] at hb
    rcases List.mem_append.mp hb with hb | hb
    · exact nb hb
    · rw [f1 b hb] at e; cases e

mutual
theorem VR.wk (g : ∀ (n : Nat) (a : Addr), m[n]? = some a → m'[n]? = some a) (kp : ∀ a u, H a = some u → mutK u = false → H' a = some u) : ∀ {d : D} {v : V}, VR S m H d v → VR S m' H' d v
  | _, _, .non => .non
  | _, _, .bl b => .bl b
  | _, _, .int i => .int i
  | _, _, .str z => .str z
  | _, _, .tup e q => .tup (kp _ _ e rfl) (VRs.wk g kp q)
  | _, _, .ref e => .ref (g _ _ e)
  | _, _, .fn f => .fn f
  | _, _, .frz e q => .frz (e.imp (fun ⟨o, e⟩ => ⟨o, kp _ _ e rfl⟩) id) (VRs.wk g kp q)
theorem VRs.wk (g : ∀ (n : Nat) (a : Addr), m[n]? = some a → m'[n]? = some a) (kp : ∀ a u, H a = some u → mutK u = false → H' a = some u) : ∀ {d : List D} {v : List V}, VRs S m H d v → VRs S m' H' d v
  | _, _, .nil => .nil
  | _, _, .cons a b => .cons (VR.wk g kp a) (VRs.wk g kp b)
end
theorem VR.mono (r : HR S m H h) (x : Ext m H m' H') {d : D} {v : V} (q : VR S m H d v) : VR S m' H' d v := q.wk (fun _ _ e => x.get e) fun _ _ e n => x.keep r e n
theorem VRs.mono (r : HR S m H h) (x : Ext m H m' H') {d : List D} {v : List V} (q : VRs S m H d v) : VRs S m' H' d v := q.wk (fun _ _ e => x.get e) fun _ _ e n => x.keep r e n
theorem FR.wk (g : ∀ (n : Nat) (a : Addr), m[n]? = some a → m'[n]? = some a) (kp : ∀ a u, H a = some u → mutK u = false → H' a = some u) : ∀ {d : List (Nat × D)} {v : List (Str × V)}, FR S m H d v → FR S m' H' d v
  | _, _, .nil => .nil
  | _, _, .cons a b => .cons (a.wk g kp) (FR.wk g kp b)
theorem KR.wk (g : ∀ (n : Nat) (a : Addr), m[n]? = some a → m'[n]? = some a) (kp : ∀ a u, H a = some u → mutK u = false → H' a = some u) : ∀ {d : List (D × D)} {v : List (Key × V)}, KR S m H d v → KR S m' H' d v
  | _, _, .nil => .nil
  | _, _, .cons e a b => .cons e (a.wk g kp) (KR.wk g kp b)
theorem OR.wk (g : ∀ (n : Nat) (a : Addr), m[n]? = some a → m'[n]? = some a) (kp : ∀ a u, H a = some u → mutK u = false → H' a = some u) {a : Addr} {o : Ob} (e : H' a = H a) (q : OR S m H a o) : OR S m' H' a o := by
  cases o with
  | lst l => obtain ⟨vs, e1, q1, q2⟩ := q; exact ⟨vs, e.trans e1, q1.wk g kp, q2⟩
  | dct l => obtain ⟨vs, e1, q1⟩ := q; exact ⟨vs, e.trans e1, q1.wk g kp⟩
  | ins C fs => obtain ⟨hc, dx, ws, e1, q1⟩ := q; exact ⟨hc, dx, ws, e.trans e1, q1.wk g kp⟩
/-- a tracked object outside of m is changed -/
theorem HR.side (r : HR S m H h) {p : Addr} {u w : HO} (hp : p ∉ m) (hu : H p = some u) (mu : mutK u = true) : HR S m (upd H p w) h := by
  have kp : ∀ a o, H a = some o → mutK o = false → upd H p w a = some o := fun a o e n => by
    rw [upd_ne (fun z => by rw [z, hu] at e; cases e; rw [mu] at n; cases n)]
    exact e
  refine ⟨r.len, r.nd, fun i o e => ?_, S.sxm _ _ _ _ (fun _ _ e => e) kp r.sx⟩
  obtain ⟨a, ea, q⟩ := r.ob i o e
  exact ⟨a, ea, q.wk (fun _ _ e => e) kp (upd_ne (fun z => hp (by rw [← z]; exact List.mem_of_getElem? ea)))⟩
/-- a tracked object comes in -/
theorem HR.join (r : HR S m H h) {p : Addr} {o : Ob} (hp : p ∉ m) (q : OR S (m ++ [p]) H p o) : HR S (m ++ [p]) H (h ++ [o]) where
  sx := S.sxm _ _ _ _ (fun n a e => by rw [List.getElem?_append_left (List.getElem?_eq_some_iff.mp e).1]; exact e) (fun _ _ e _ => e) r.sx
  len := by simp [r.len]
  nd := List.nodup_append.mpr ⟨r.nd, by simp, fun a ha b hb => by
    have hb' : b = p := by simpa using hb
    rintro rfl
    exact hp (hb' ▸ ha)⟩
  ob := fun i o' e => by
    by_cases hi : i < h.length
    · rw [List.getElem?_append_left hi] at e
      obtain ⟨a, ea, q'⟩ := r.ob i o' e
      have g : ∀ (n : Nat) (a : Addr), m[n]? = some a → (m ++ [p])[n]? = some a := fun n a e => by
        rw [List.getElem?_append_left (List.getElem?_eq_some_iff.mp e).1]; exact e
      exact ⟨a, g _ _ ea, q'.wk g (fun _ _ e _ => e) rfl⟩
    · have hi' : i = h.length := by
        have := (List.getElem?_eq_some_iff.mp e).1
        simp at this; omega
      subst hi'
      rw [List.getElem?_append_right (Nat.le_refl _)] at e
      simp at e
      subst e
      exact ⟨p, by rw [List.getElem?_append_right (by rw [r.len]; exact Nat.le_refl _), r.len]; simp, q⟩
theorem FR.mono (r : HR S m H h) (x : Ext m H m' H') : ∀ {d : List (Nat × D)} {v : List (Str × V)}, FR S m H d v → FR S m' H' d v
  | _, _, .nil => .nil
  | _, _, .cons a b => .cons (a.mono r x) (FR.mono r x b)
theorem KR.mono (r : HR S m H h) (x : Ext m H m' H') : ∀ {d : List (D × D)} {v : List (Key × V)}, KR S m H d v → KR S m' H' d v
  | _, _, .nil => .nil
  | _, _, .cons e a b => .cons e (a.mono r x) (KR.mono r x b)
theorem VRs.length : ∀ {d : List D} {v : List V}, VRs S m H d v → d.length = v.length
  | _, _, .nil => rfl
  | _, _, .cons _ b => by simp [VRs.length b]
theorem VRs.append : ∀ {d d2 : List D} {v v2 : List V}, VRs S m H d v → VRs S m H d2 v2 → VRs S m H (d ++ d2) (v ++ v2)
  | _, _, _, _, .nil, y => y
  | _, _, _, _, .cons a b, y => .cons a (VRs.append b y)
theorem VRs.get : ∀ {d : List D} {v : List V} {i : Nat} {x : D}, VRs S m H d v → d[i]? = some x → ∃ y, v[i]? = some y ∧ VR S m H x y
  | _, _, _, _, .nil, e => by simp at e
  | _, _, 0, _, .cons a _, e => by simp at e; subst e; exact ⟨_, rfl, a⟩
  | _, _, i + 1, _, .cons _ b, e => by simpa using VRs.get (i := i) b (by simpa using e)
theorem VRs.getv : ∀ {d : List D} {v : List V} {i : Nat} {y : V}, VRs S m H d v → v[i]? = some y → ∃ x, d[i]? = some x ∧ VR S m H x y
  | _, _, _, _, .nil, e => by simp at e
  | _, _, 0, _, .cons a _, e => by simp at e; subst e; exact ⟨_, rfl, a⟩
  | _, _, i + 1, _, .cons _ b, e => by simpa using VRs.getv (i := i) b (by simpa using e)
theorem VRs.drop : ∀ {d : List D} {v : List V} (n : Nat), VRs S m H d v → VRs S m H (d.drop n) (v.drop n)
  | _, _, 0, x => x
  | _, _, _ + 1, .nil => .nil
  | _, _, n + 1, .cons _ b => VRs.drop n b
theorem VRs.take : ∀ {d : List D} {v : List V} (n : Nat), VRs S m H d v → VRs S m H (d.take n) (v.take n)
  | _, _, 0, _ => .nil
  | _, _, _ + 1, .nil => .nil
  | _, _, n + 1, .cons a b => .cons a (VRs.take n b)
theorem VRs.set {x : D} {y : V} (r : VR S m H x y) : ∀ {d : List D} {v : List V} (n : Nat), VRs S m H d v → VRs S m H (d.set n x) (v.set n y)
  | _, _, _, .nil => .nil
  | _, _, 0, .cons _ b => .cons r b
  | _, _, n + 1, .cons a b => .cons a (VRs.set r n b)
theorem VRs.reverse : ∀ {d : List D} {v : List V}, VRs S m H d v → VRs S m H d.reverse v.reverse
  | _, _, .nil => .nil
  | _, _, .cons a b => by rw [List.reverse_cons, List.reverse_cons]; exact (VRs.reverse b).append (.cons a .nil)
theorem VRs.rep : ∀ {d : List D} {v : List V} (n : Nat), VRs S m H d v → VRs S m H (List.replicate n d).flatten (List.replicate n v).flatten
  | _, _, 0, _ => .nil
  | _, _, n + 1, x => by rw [List.replicate_succ, List.replicate_succ, List.flatten_cons, List.flatten_cons]; exact x.append (VRs.rep n x)
theorem VRs.eraseIdx : ∀ {d : List D} {v : List V} (n : Nat), VRs S m H d v → VRs S m H (d.eraseIdx n) (v.eraseIdx n)
  | _, _, _, .nil => .nil
  | _, _, 0, .cons _ b => b
  | _, _, n + 1, .cons a b => .cons a (VRs.eraseIdx n b)
theorem VRs.insertIdx {x : D} {y : V} (r : VR S m H x y) : ∀ {d : List D} {v : List V} (n : Nat), VRs S m H d v → VRs S m H (d.insertIdx n x) (v.insertIdx n y)
  | _, _, 0, q => by simp [List.insertIdx]; exact .cons r q
  | _, _, _ + 1, .nil => .nil
  | _, _, n + 1, .cons a b => by simpa [List.insertIdx_succ_cons] using VRs.cons a (VRs.insertIdx r n b)
theorem VRs.dropLast : ∀ {d : List D} {v : List V}, VRs S m H d v → VRs S m H d.dropLast v.dropLast
  | _, _, .nil => .nil
  | _, _, .cons a .nil => .nil
  | _, _, .cons a (.cons b c) => .cons a (VRs.dropLast (.cons b c))
theorem VRs.getLast : ∀ {d : List D} {v : List V} {x : D}, VRs S m H d v → d.getLast? = some x → ∃ y, v[v.length - 1]? = some y ∧ VR S m H x y := fun {d v x} r e => by
  rw [List.getLast?_eq_getElem?] at e
  rw [← r.length]
  exact r.get e

/-- the object at a, seen after its own heap has grown -/
theorem OR.mono (r : HR S m H h) (x : Ext m H m' H') {a : Addr} {o : Ob} (e : H' a = H a) (q : OR S m H a o) : OR S m' H' a o := by
  cases o with
  | lst l => obtain ⟨vs, e1, q1, q2⟩ := q; exact ⟨vs, e.trans e1, q1.mono r x, q2⟩
  | dct l => obtain ⟨vs, e1, q1⟩ := q; exact ⟨vs, e.trans e1, q1.mono r x⟩
  | ins C fs => obtain ⟨hc, dx, ws, e1, q1⟩ := q; exact ⟨hc, dx, ws, e.trans e1, q1.mono r x⟩

theorem Ext.new {p : Addr} {u : HO} (hp : H p = none) : Ext m H m (upd H p u) :=
  ⟨⟨[], by simp, by simp⟩, fun b o _ e => by rw [upd_ne (ne_of_none e hp)]; exact e⟩
/-- a new thing beside (a tuple) -/
theorem HR.new (r : HR S m H h) {p : Addr} {u : HO} (hp : H p = none) : HR S m (upd H p u) h :=
  ⟨r.len, r.nd, fun i o e => by
    obtain ⟨a, ea, q⟩ := r.ob i o e
    obtain ⟨u', e', _⟩ := q.mut
    exact ⟨a, ea, q.mono r (Ext.new hp) (upd_ne (ne_of_none e' hp))⟩, S.sxm _ _ _ _ (fun _ _ e => e) (fun _ _ e _ => by rw [upd_ne (ne_of_none e hp)]; exact e) r.sx⟩
theorem Ext.push {p : Addr} {u : HO} (hp : H p = none) : Ext m H (m ++ [p]) (upd H p u) :=
  ⟨⟨[p], rfl, by simpa using hp⟩, fun b o _ e => by rw [upd_ne (ne_of_none e hp)]; exact e⟩
/-- a new object -/
theorem HR.push (r : HR S m H h) {p : Addr} {u : HO} {o : Ob} (hp : H p = none) (q : OR S (m ++ [p]) (upd H p u) p o) : HR S (m ++ [p]) (upd H p u) (h ++ [o]) where
  sx := S.sxm _ _ _ _ (fun n a e => by rw [List.getElem?_append_left (List.getElem?_eq_some_iff.mp e).1]; exact e) (fun _ _ e _ => by rw [upd_ne (ne_of_none e hp)]; exact e) r.sx
  len := by simp [r.len]
  nd := List.nodup_append.mpr ⟨r.nd, by simp, fun a ha b hb => by
    have hb' : b = p := by simpa using hb
    rintro rfl
    exact r.fresh hp (hb' ▸ ha)⟩
  ob := fun i o' e => by
    by_cases hi : i < h.length
    · rw [List.getElem?_append_left hi] at e
      obtain ⟨a, ea, q'⟩ := r.ob i o' e
      obtain ⟨u', e', _⟩ := q'.mut
      refine ⟨a, ?_, q'.mono r (Ext.push hp) (upd_ne (ne_of_none e' hp))⟩
      rw [List.getElem?_append_left (List.getElem?_eq_some_iff.mp ea).1]; exact ea
    · have hi' : i = h.length := by
        have := (List.getElem?_eq_some_iff.mp e).1
        simp at this; omega
      subst hi'
      rw [List.getElem?_append_right (Nat.le_refl _)] at e
      simp at e
      subst e
      exact ⟨p, by rw [List.getElem?_append_right (by rw [r.len]; exact Nat.le_refl _), r.len]; simp, q⟩
theorem Ext.write {a : Addr} {u : HO} (ha : a ∈ m) : Ext m H m (upd H a u) :=
  ⟨⟨[], by simp, by simp⟩, fun b o nb e => by rw [upd_ne (fun z => nb (by rw [z]; exact ha))]; exact e⟩
/-- an object is changed -/
theorem HR.write (r : HR S m H h) {n : Nat} {a : Addr} {u : HO} {o : Ob} (ha : m[n]? = some a) (q : OR S m (upd H a u) a o) : HR S m (upd H a u) (h.set n o) where
  sx := S.sxm _ _ _ _ (fun _ _ e => e) (fun b o e nm => (Ext.write (u := u) (List.mem_of_getElem? ha)).keep r e nm) r.sx
  len := by simp [r.len]
  nd := r.nd
  ob := fun i o' e => by
    have hm : a ∈ m := List.mem_of_getElem? ha
    by_cases hi : i = n
    · subst hi
      have hlt : i < h.length := by
        have := (List.getElem?_eq_some_iff.mp e).1
        simpa using this
      rw [List.getElem?_set_self hlt] at e
      cases e
      exact ⟨a, ha, q⟩
    · rw [List.getElem?_set_ne (Ne.symm hi)] at e
      obtain ⟨b, eb, q'⟩ := r.ob i o' e
      have hb : b ≠ a := by
        rintro rfl
        have h1 := List.getElem?_eq_some_iff.mp ha
        have h2 := List.getElem?_eq_some_iff.mp eb
        obtain ⟨l1, e1⟩ := h1
        obtain ⟨l2, e2⟩ := h2
        exact hi ((List.getElem_inj r.nd).mp (e2.trans e1.symm))
      exact ⟨b, eb, q'.mono r (Ext.write hm) (upd_ne hb)⟩

/-- the names -/
structure ER (S : Sta) (m : List Addr) (H : Hp) (ρ : PEnv) (σ : St) : Prop where
  len : ρ.length = σ.length
  at_ : ∀ (i : Nat) (d : D), ρ[i]? = some (some d) → ∃ v, σ[i]? = some (some v) ∧ VR S m H d v
  pin : ∀ p ∈ S.xs, σ[p.1]? = some (some p.2)
theorem ER.mono {ρ : PEnv} {σ : St} (r : HR S m H h) (x : Ext m H m' H') (q : ER S m H ρ σ) : ER S m' H' ρ σ :=
  ⟨q.len, fun i d e => let ⟨v, e', q'⟩ := q.at_ i d e; ⟨v, e', q'.mono r x⟩, q.pin⟩
theorem ER.set {ρ : PEnv} {σ : St} {d : D} {v : V} (q : ER S m H ρ σ) (i : Nat) (hx : ∀ p ∈ S.xs, p.1 ≠ i) (r : VR S m H d v) : ER S m H (ρ.set i (some d)) (σ.set i (some v)) :=
  ⟨by simp [q.len], fun j d' e => by
    by_cases hj : j = i
    · subst hj
      by_cases hlt : j < ρ.length
      · rw [List.getElem?_set_self hlt] at e
        cases e
        exact ⟨v, by rw [List.getElem?_set_self (q.len ▸ hlt)], r⟩
      · rw [List.getElem?_eq_none (by simpa using hlt)] at e; cases e
    · rw [List.getElem?_set_ne (Ne.symm hj)] at e
      obtain ⟨w, e', q'⟩ := q.at_ j d' e
      exact ⟨w, by rw [List.getElem?_set_ne (Ne.symm hj)]; exact e', q'⟩, fun p hp => by rw [List.getElem?_set_ne (Ne.symm (hx p hp))]; exact q.pin p hp⟩
theorem ER.none {ρ : PEnv} {σ : St} (q : ER S m H ρ σ) (i : Nat) (hx : ∀ p ∈ S.xs, p.1 ≠ i) (u : Option V) : ER S m H (ρ.set i none) (σ.set i u) :=
  ⟨by simp [q.len], fun j d' e => by
    by_cases hj : j = i
    · subst hj
      by_cases hlt : j < ρ.length
      · rw [List.getElem?_set_self hlt] at e; cases e
      · rw [List.getElem?_eq_none (by simpa using hlt)] at e; cases e
    · rw [List.getElem?_set_ne (Ne.symm hj)] at e
      obtain ⟨w, e', q'⟩ := q.at_ j d' e
      exact ⟨w, by rw [List.getElem?_set_ne (Ne.symm hj)]; exact e', q'⟩, fun p hp => by rw [List.getElem?_set_ne (Ne.symm (hx p hp))]; exact q.pin p hp⟩
theorem ER.wipe (hx : S.xs = []) : ∀ {ρ : PEnv} {σ : St} (vs : List Nat), ER S m H ρ σ → ER S m H (wipeE ρ vs) (wipe σ vs)
  | _, _, [], q => q
  | _, _, i :: is, q => (ER.wipe hx is q).none i (by rw [hx]; simp) Option.none

/-- what the written part says of an exception class's field -/
structure XfF (K : PySem.W.Frag) (C : Addr) (f : Str) : Prop where
  ga : PySem.W.findIn K (.ref C) "__getattribute__" = some (some (.builtin "BaseException.__getattribute__"))
  gg : PySem.W.findIn K (.ref C) "__getattr__" = some none
  exC : PySem.W.subIn K (.ref C) (.type "BaseException") = some true
  hd : PySem.W.hasDictIn K C = true
  no : PySem.W.findIn K (.ref C) f = some none
/-- an exception -/
structure XR (S : Sta) (m : List Addr) (H : Hp) (e : Exn) (cls : Value) (d : Option Addr) : Prop where
  cls : cls = .ref (S.cA e.cls)
  xc : e.cls ∈ S.xcs
  at_ : e.fs ≠ [] → ∃ a ws, d = some a ∧ H a = some (.xd ws) ∧ ∀ f x, e.fs.lookup f = some x → (∃ v, ws.lookup (S.fN f) = some v ∧ VR S m H x v) ∧ XfF S.K (S.cA e.cls) (S.fN f)
theorem XR.wk (g : ∀ (n : Nat) (a : Addr), m[n]? = some a → m'[n]? = some a) (kp : ∀ a u, H a = some u → mutK u = false → H' a = some u) {e : Exn} {cls : Value} {d : Option Addr} (q : XR S m H e cls d) : XR S m' H' e cls d :=
  ⟨q.cls, q.xc, fun n => let ⟨a, ws, e1, e2, e3⟩ := q.at_ n; ⟨a, ws, e1, kp _ _ e2 rfl, fun f y hy => let ⟨⟨v, g1, g2⟩, g3⟩ := e3 f y hy; ⟨⟨v, g1, g2.wk g kp⟩, g3⟩⟩⟩
theorem XR.mono (r : HR S m H h) (x : Ext m H m' H') {e : Exn} {cls : Value} {d : Option Addr} (q : XR S m H e cls d) : XR S m' H' e cls d := q.wk (fun _ _ e => x.get e) fun _ _ e n => x.keep r e n

/-- what follows a result: R relates values -/
def Po {α β : Type} (S : Sta) (R : List Addr → Hp → α → β → Prop) (r : Rs α) (m : List Addr) (H : Hp) (WE : XK) (Q : β → Hp → Prop) : Prop :=
  match r with
  | .ok a h' => ∀ m' H' b, Ext m H m' H' → HR S m' H' h' → R m' H' a b → Q b H'
  | .ex e h' => ∀ m' H' cls d, Ext m H m' H' → HR S m' H' h' → XR S m' H' e cls d → WE cls d H'
  | .st => False
abbrev RV (S : Sta) : List Addr → Hp → D → V → Prop := fun m H d v => VR S m H d v
abbrev RVs (S : Sta) : List Addr → Hp → List D → List V → Prop := fun m H d v => VRs S m H d v
abbrev RB : List Addr → Hp → Bool → Bool → Prop := fun _ _ a b => a = b

theorem Po.bind {α β α' β' : Type} {R : List Addr → Hp → α → β → Prop} {R' : List Addr → Hp → α' → β' → Prop} {r : Rs α} {k : α → Hh → Rs α'} {WE : XK} {Q : β' → Hp → Prop}
    (x : Po S R' (r.bind k) m H WE Q) : Po S R r m H WE fun b H1 => ∃ m1 h1 a, Ext m H m1 H1 ∧ HR S m1 H1 h1 ∧ R m1 H1 a b ∧ Po S R' (k a h1) m1 H1 WE Q := by
  cases r with
  | ok a h1 =>
    intro m1 H1 b x1 r1 q1
    refine ⟨m1, h1, a, x1, r1, q1, ?_⟩
    have x' : Po S R' (k a h1) m H WE Q := x
    revert x'
    generalize k a h1 = z
    intro x'
    cases z with
    | ok a2 h2 => exact fun m2 H2 b2 y r2 q2 => x' m2 H2 b2 (x1.trans r1 y) r2 q2
    | ex e h2 => exact fun m2 H2 c d y r2 q2 => x' m2 H2 c d (x1.trans r1 y) r2 q2
    | st => exact x'
  | ex e h1 => exact x
  | st => exact x
theorem Po.imp {α β : Type} {R : List Addr → Hp → α → β → Prop} {r : Rs α} {WE WE' : XK} {Q Q' : β → Hp → Prop} (x : Po S R r m H WE Q) (f : ∀ b H', Q b H' → Q' b H') (g : ∀ c d H', WE c d H' → WE' c d H') : Po S R r m H WE' Q' := by
  cases r with
  | ok a h1 => exact fun m1 H1 b a1 a2 a3 => f _ _ (x m1 H1 b a1 a2 a3)
  | ex e h1 => exact fun m1 H1 c d a1 a2 a3 => g _ _ _ (x m1 H1 c d a1 a2 a3)
  | st => exact x
end

/-- the canonical reading of an expression that f evaluates -/
def tE (S : Sta) (f : PEnv → Hh → Rs D) (W : WX) : TE := fun σ H Q => ∃ m ρ h, HR S m H h ∧ ER S m H ρ σ ∧ Po S (RV S) (f ρ h) m H (fun c d H' => W c d σ H') Q
def tTt (S : Sta) (f : PEnv → Hh → Rs Bool) (W : WX) : TT := fun σ H Q => ∃ m ρ h, HR S m H h ∧ ER S m H ρ σ ∧ Po S RB (f ρ h) m H (fun c d H' => W c d σ H') Q
def tAa (S : Sta) (f : PEnv → Hh → Rs (List D)) (W : WX) : TA := fun σ H Q => ∃ m ρ h, HR S m H h ∧ ER S m H ρ σ ∧ Po S (RVs S) (f ρ h) m H (fun c d H' => W c d σ H') Q

theorem _root_.L2.PE.imp {X : Cx} {e : Expr} {t t' : TE} (p : PE X e t) (h : ∀ σ H Q, t' σ H Q → t σ H Q) : PE X e t' := ⟨fun pins s σ H Q I x => p.run pins s σ H Q I (h _ _ _ x)⟩
theorem _root_.L2.PT.imp {X : Cx} {e : Expr} {t t' : TT} (p : PT X e t) (h : ∀ σ H Q, t' σ H Q → t σ H Q) : PT X e t' := ⟨fun pins s σ H Q I x => p.run pins s σ H Q I (h _ _ _ x)⟩
theorem _root_.L2.PA.imp {X : Cx} {e : List Expr} {t t' : TA} (p : PA X e t) (h : ∀ σ H Q, t' σ H Q → t σ H Q) : PA X e t' := ⟨fun pos pins s σ H Q I x => p.run pos pins s σ H Q I (h _ _ _ x)⟩
theorem _root_.L2.PS.imp {X : Cx} {e : Stmt} {t t' : TS} (p : PS X e t) (h : ∀ D σ H, t' D σ H → t D σ H) : PS X e t' := ⟨fun pins s σ H D I x => p.run pins s σ H D I (h _ _ _ x)⟩
theorem _root_.L2.PSs.imp {X : Cx} {e : List Stmt} {t t' : TS} (p : PSs X e t) (h : ∀ D σ H, t' D σ H → t D σ H) : PSs X e t' := ⟨fun pins s σ H D I x => p.run pins s σ H D I (h _ _ _ x)⟩
theorem _root_.L2.PI.imp {X : Cx} {a b : Expr} {t t' : TI} (p : PI X a b t) (h : ∀ σ H Q, t' σ H Q → t σ H Q) : PI X a b t' := ⟨fun pins s σ H Q I x => p.run pins s σ H Q I (h _ _ _ x)⟩

section
variable {X : Cx} {S : Sta} {a b c : Expr} {f g k : PEnv → Hh → Rs D} {W : WX} {pos : Pos}
/-- the first part of a reading -/
theorem tE_first {α β : Type} {R : List Addr → Hp → α → β → Prop} {f : PEnv → Hh → Rs D} {k : PEnv → D → Hh → Rs α} {σ : St} {H : Hp} {Q : β → Hp → Prop} {m : List Addr} {ρ : PEnv} {h : Hh} (r : HR S m H h) (q : ER S m H ρ σ)
    (x : Po S R ((f ρ h).bind (k ρ)) m H (fun c d H' => W c d σ H') Q) {Q' : V → Hp → Prop}
    (y : ∀ v H1 m1 h1 d, HR S m1 H1 h1 → ER S m1 H1 ρ σ → Ext m H m1 H1 → VR S m1 H1 d v → Po S R (k ρ d h1) m1 H1 (fun c d H' => W c d σ H') Q → Q' v H1) : tE S f W σ H Q' :=
  ⟨m, ρ, h, r, q, (Po.bind (R := RV S) x).imp (fun v H1 ⟨m1, h1, d, x1, r1, v1, p1⟩ => y v H1 m1 h1 d r1 (q.mono r x1) x1 v1 p1) fun _ _ _ z => z⟩
theorem tT_first {α β : Type} {R : List Addr → Hp → α → β → Prop} {f : PEnv → Hh → Rs Bool} {k : PEnv → Bool → Hh → Rs α} {σ : St} {H : Hp} {Q : β → Hp → Prop} {m : List Addr} {ρ : PEnv} {h : Hh} (r : HR S m H h) (q : ER S m H ρ σ)
    (x : Po S R ((f ρ h).bind (k ρ)) m H (fun c d H' => W c d σ H') Q) {Q' : Bool → Hp → Prop}
    (y : ∀ v H1 m1 h1, HR S m1 H1 h1 → ER S m1 H1 ρ σ → Ext m H m1 H1 → Po S R (k ρ v h1) m1 H1 (fun c d H' => W c d σ H') Q → Q' v H1) : tTt S f W σ H Q' :=
  ⟨m, ρ, h, r, q, (Po.bind (R := RB) x).imp (fun v H1 ⟨m1, h1, d, x1, r1, v1, p1⟩ => by cases v1; exact y v H1 m1 h1 r1 (q.mono r x1) x1 p1) fun _ _ _ z => z⟩
theorem tA_first {α β : Type} {R : List Addr → Hp → α → β → Prop} {f : PEnv → Hh → Rs (List D)} {k : PEnv → List D → Hh → Rs α} {σ : St} {H : Hp} {Q : β → Hp → Prop} {m : List Addr} {ρ : PEnv} {h : Hh} (r : HR S m H h) (q : ER S m H ρ σ)
    (x : Po S R ((f ρ h).bind (k ρ)) m H (fun c d H' => W c d σ H') Q) {Q' : List V → Hp → Prop}
    (y : ∀ vs H1 m1 h1 ds, HR S m1 H1 h1 → ER S m1 H1 ρ σ → Ext m H m1 H1 → VRs S m1 H1 ds vs → Po S R (k ρ ds h1) m1 H1 (fun c d H' => W c d σ H') Q → Q' vs H1) : tAa S f W σ H Q' :=
  ⟨m, ρ, h, r, q, (Po.bind (R := RVs S) x).imp (fun v H1 ⟨m1, h1, d, x1, r1, v1, p1⟩ => y v H1 m1 h1 d r1 (q.mono r x1) x1 v1 p1) fun _ _ _ z => z⟩
/-- the answer is there -/
theorem Po.done {α β : Type} {R : List Addr → Hp → α → β → Prop} {m : List Addr} {H : Hp} {h : Hh} {WE : XK} {Q : β → Hp → Prop} {x : α} {y : β} (p : Po S R (.ok x h) m H WE Q) (r : HR S m H h) (q : R m H x y) : Q y H := p m H y (Ext.refl _ _) r q
theorem Po.at_ {α β : Type} {R : List Addr → Hp → α → β → Prop} {m m' : List Addr} {H H' : Hp} {h : Hh} {WE : XK} {Q : β → Hp → Prop} {x : α} {y : β} (p : Po S R (.ok x h) m H WE Q) (e : Ext m H m' H') (r : HR S m' H' h) (q : R m' H' x y) : Q y H' := p m' H' y e r q

/-- a two-place operation by our function -/
def rO (S : Sta) (o : D → D → Hh → Rs D) : R2 := fun x y H Q => ∃ m h dx dy, HR S m H h ∧ VR S m H dx x ∧ VR S m H dy y ∧ Po S (RV S) (o dx dy h) m H (fun _ _ _ => False) Q
theorem Po.noex {α β : Type} {R : List Addr → Hp → α → β → Prop} {r : Rs α} {m : List Addr} {H : Hp} {WE WE' : XK} {Q : β → Hp → Prop} (n : ∀ e h, r ≠ .ex e h) (x : Po S R r m H WE Q) : Po S R r m H WE' Q := by
  cases r with
  | ok a h1 => exact x
  | ex e h1 => exact absurd rfl (n e h1)
  | st => exact x
theorem tO_of {o : D → D → Hh → Rs D} (n : ∀ x y h e h', o x y h ≠ .ex e h') {σ : St} {H : Hp} {Q : VK} (h : tE S (fun ρ h => (f ρ h).bind fun x h1 => (g ρ h1).bind fun y h2 => o x y h2) W σ H Q) : tOp (rO S o) (tE S f W) (tE S g W) σ H Q := by
  obtain ⟨m, ρ, hh, r, q, x⟩ := h
  refine tE_first (k := fun ρ x h1 => (g ρ h1).bind fun y h2 => o x y h2) r q x fun v1 H1 m1 h1 d1 r1 q1 x1 e1 p1 => ?_
  refine tE_first (k := fun ρ y h2 => o d1 y h2) r1 q1 p1 fun v2 H2 m2 h2 d2 r2 q2 x2 e2 p2 => ?_
  exact ⟨m2, h2, d1, d2, r2, e1.mono r1 x2, e2, p2.noex (fun e h' => n _ _ _ e h')⟩
theorem me_bin {op : Operator} {o : D → D → Hh → Rs D} (ho : OpR X (binaryOp op) (rO S o)) (n : ∀ x y h e h', o x y h ≠ .ex e h') (ha : PE X a (tE S f W)) (hb : PE X b (tE S g W)) :
    PE X (.BinOp a op b pos) (tE S (fun ρ h => (f ρ h).bind fun x h1 => (g ρ h1).bind fun y h2 => o x y h2) W) := (pe_op ho ha hb).imp fun σ H Q h => tO_of n h
theorem me_cmp {op : CmpOp} {o : D → D → Hh → Rs D} (ho : OpR X (compareOp op) (rO S o)) (n : ∀ x y h e h', o x y h ≠ .ex e h') (ha : PE X a (tE S f W)) (hb : PE X b (tE S g W)) (hm : behindInMarks op b = false) :
    PE X (.Compare a [op] [b] pos) (tE S (fun ρ h => (f ρ h).bind fun x h1 => (g ρ h1).bind fun y h2 => o x y h2) W) := (pe_cmpR ho ha hb hm).imp fun σ H Q h => tO_of n h
end
end MP

set_option Elab.async false
set_option linter.all false
set_option maxRecDepth 100000
set_option autoImplicit false
set_option maxHeartbeats 1000000
/-! Mp3: the operations by values. -/
namespace MP
open PySem PySem.Spec L2
theorem sl_line : SL = sizeLine := sizeLine_eq.symm
section
variable {X : Cx} {S : Sta} {m : List Addr} {H : Hp} {h : Hh}
theorem VR.int_inv {i : Int} {v : V} (r : VR S m H (.int i) v) : v = .int i := by cases r; rfl
theorem VR.str_inv {i : Str} {v : V} (r : VR S m H (.str i) v) : v = .str i := by cases r; rfl
theorem VR.bl_inv {i : Bool} {v : V} (r : VR S m H (.bl i) v) : v = .bl i := by cases r; rfl
theorem VR.non_inv {v : V} (r : VR S m H .non v) : v = .non := by cases r; rfl
theorem VR.tup_inv {l : List D} {v : V} (r : VR S m H (.tup l) v) : ∃ a vs, v = .ref a ∧ H a = some (.tup vs) ∧ VRs S m H l vs := by
  cases r with
  | tup e q => exact ⟨_, _, rfl, e, q⟩
theorem VR.frz_inv {l : List D} {v : V} (r : VR S m H (.frz l) v) : ∃ a vs, v = .ref a ∧ SqL S.K H a vs ∧ VRs S m H l vs := by
  cases r with
  | frz e q => exact ⟨_, _, rfl, e.elim (fun e => .inl (.inr e)) .inr, q⟩
theorem VR.lst_inv (r : HR S m H h) {n : Nat} {l : List D} {v : V} (q : VR S m H (.ref n) v) (e : h[n]? = some (.lst l)) : ∃ a vs, v = .ref a ∧ m[n]? = some a ∧ H a = some (.lst vs) ∧ VRs S m H l vs ∧ vs.length ≤ sizeLine := by
  cases q with
  | ref e' =>
    obtain ⟨a, ea, vs, e1, e2, e3⟩ := r.ob n _ e
    rw [e'] at ea; cases ea
    exact ⟨_, vs, rfl, e', e1, e2, e3⟩
theorem VR.dct_inv (r : HR S m H h) {n : Nat} {l : List (D × D)} {v : V} (q : VR S m H (.ref n) v) (e : h[n]? = some (.dct l)) : ∃ a vs, v = .ref a ∧ m[n]? = some a ∧ H a = some (.dK vs) ∧ KR S m H l vs := by
  cases q with
  | ref e' =>
    obtain ⟨a, ea, vs, e1, e2⟩ := r.ob n _ e
    rw [e'] at ea; cases ea
    exact ⟨_, vs, rfl, e', e1, e2⟩
theorem VR.ins_inv (r : HR S m H h) {n : Nat} {C : Nat} {l : List (Nat × D)} {v : V} (q : VR S m H (.ref n) v) (e : h[n]? = some (.ins C l)) : ∃ a dx vs, v = .ref a ∧ m[n]? = some a ∧ H a = some (.ins (S.cA C) dx vs) ∧ FR S m H l vs ∧ C ∈ S.cs := by
  cases q with
  | ref e' =>
    obtain ⟨a, ea, hc, dx, vs, e1, e2⟩ := r.ob n _ e
    rw [e'] at ea; cases ea
    exact ⟨_, dx, vs, rfl, e', e1, e2, hc⟩
/-- a list or a tuple that is read -/
theorem seq_inv (r : HR S m H h) {d : D} {l : List D} {v : V} (q : VR S m H d v) (e : seqD h d = some l) : ∃ a vs, v = .ref a ∧ (SqL S.K H a vs ∨ SqT S.K H a vs) ∧ VRs S m H l vs := by
  cases d with
  | tup l' =>
    have e' : l' = l := Option.some.inj e
    subst e'
    obtain ⟨a, vs, e1, e2, e3⟩ := q.tup_inv
    exact ⟨a, vs, e1, .inr (SqT.of e2), e3⟩
  | frz l' =>
    have e' : l' = l := Option.some.inj e
    subst e'
    obtain ⟨a, vs, e1, e2, e3⟩ := q.frz_inv
    exact ⟨a, vs, e1, .inl e2, e3⟩
  | ref n =>
    cases hn : h[n]? with
    | none => simp [seqD, hn] at e
    | some o =>
      cases o with
      | lst l' =>
        simp [seqD, hn] at e
        subst e
        obtain ⟨a, vs, e1, e2, e3, e4, _⟩ := q.lst_inv r hn
        exact ⟨a, vs, e1, .inl (SqL.of e3), e4⟩
      | dct _ => simp [seqD, hn] at e
      | ins _ _ => simp [seqD, hn] at e
  | non => cases e
  | bl _ => cases e
  | int _ => cases e
  | str _ => cases e
  | fn _ => cases e
theorem lst_inv (r : HR S m H h) {d : D} {l : List D} {v : V} (q : VR S m H d v) (e : lstD h d = some l) : ∃ a vs, v = .ref a ∧ SqL S.K H a vs ∧ VRs S m H l vs := by
  cases d with
  | frz l' =>
    have e' : l' = l := Option.some.inj e
    subst e'
    exact q.frz_inv
  | ref n =>
    cases hn : h[n]? with
    | none => simp [lstD, hn] at e
    | some o =>
      cases o with
      | lst l' =>
        simp [lstD, hn] at e
        subst e
        obtain ⟨a, vs, e1, e2, e3, e4, _⟩ := q.lst_inv r hn
        exact ⟨a, vs, e1, SqL.of e3, e4⟩
      | dct _ => simp [lstD, hn] at e
      | ins _ _ => simp [lstD, hn] at e
  | tup _ => cases e
  | non => cases e
  | bl _ => cases e
  | int _ => cases e
  | str _ => cases e
  | fn _ => cases e

/-! ### new things -/
theorem Po.newL {m : List Addr} {H : Hp} {h : Hh} {WE : XK} {Q : VK} {l : List D} {vs : List V} (r : HR S m H h) (q : VRs S m H l vs) (hz : vs.length ≤ sizeLine) (p : Po S (RV S) (.ok (.ref h.length) (h ++ [.lst l])) m H WE Q) :
    ∀ a, H a = none → Q (.ref a) (upd H a (.lst vs)) := fun a ha => by
  refine p (m ++ [a]) _ _ (Ext.push ha) (r.push ha ⟨vs, upd_same, q.mono r (Ext.push ha), hz⟩) (.ref ?_)
  rw [List.getElem?_append_right (by rw [r.len]; exact Nat.le_refl _), r.len]; simp
theorem Po.newT {m : List Addr} {H : Hp} {h : Hh} {WE : XK} {Q : VK} {l : List D} {vs : List V} (r : HR S m H h) (q : VRs S m H l vs) (p : Po S (RV S) (.ok (.tup l) h) m H WE Q) :
    ∀ a, H a = none → Q (.ref a) (upd H a (.tup vs)) := fun a ha =>
  p m _ _ (Ext.new ha) (r.new ha) (.tup upd_same (q.mono r (Ext.new ha)))

/-! ### two-place operations -/
theorem Rs.lift_nx {α : Type} (o : Option α) (h : Hh) (e : Exn) (h' : Hh) : Rs.lift o h ≠ .ex e h' := by
  unfold Rs.lift
  split <;> (intro z; cases z)
theorem intD_nx {c : Int → Int → Bool} {f : Int → Int → Int} (x y : D) (h : Hh) (e : Exn) (h' : Hh) : intD c f x y h ≠ .ex e h' := by
  unfold intD
  split <;> (try split) <;> (intro z; cases z)
theorem binD_nx (o : Bop) (x y : D) (h : Hh) (e : Exn) (h' : Hh) : binD o x y h ≠ .ex e h' := by
  cases o
  case add => show addD x y h ≠ _; unfold addD; split <;> (try split) <;> (try split) <;> (intro z; cases z)
  case mul => show mulD x y h ≠ _; unfold mulD; split <;> (try split) <;> (try split) <;> (intro z; cases z)
  all_goals exact intD_nx _ _ _ _ _
theorem ob_int {f : Value → Value → Sem Value} {c : Int → Int → Bool} {g : Int → Int → Int} {C : Int → Int → Prop} (ho : OpR X f (rI C fun i j => .int (g i j))) (hc : ∀ i j, c i j = true → C i j) : OpR X f (rO S (intD c g)) := by
  rintro pins s σ H x y v u Q I rx ry ⟨m, h, dx, dy, r, vx, vy, p⟩
  unfold intD at p
  split at p <;> try exact False.elim p
  rename_i i j
  cases vx.int_inv
  cases vy.int_inv
  split at p
  · rename_i hcc
    exact ho pins s σ H _ _ v u Q I rx ry ⟨i, j, rfl, rfl, hc i j hcc, p.done r (.int _)⟩
  · exact False.elim p
theorem ob_int0 {f : Value → Value → Sem Value} {g : Int → Int → Int} (ho : OpR X f (rI0 fun i j => .int (g i j))) : OpR X f (rO S (intD (fun _ _ => true) g)) :=
  ob_int (C := fun _ _ => True) (fun pins s σ H x y v u Q I rx ry ⟨i, j, e1, e2, _, q⟩ => ho pins s σ H x y v u Q I rx ry ⟨i, j, e1, e2, q⟩) fun _ _ _ => trivial
theorem ob_add : OpR X (binaryOp .Add) (rO S addD) := by
  rintro pins s σ H x y v u Q I rx ry ⟨m, h, dx, dy, r, vx, vy, p⟩
  unfold addD at p
  split at p <;> try exact False.elim p
  · rename_i i j
    cases vx.int_inv
    cases vy.int_inv
    exact op_add pins s σ H _ _ v u Q I rx ry ⟨i, j, rfl, rfl, p.done r (.int _)⟩
  · rename_i i j
    cases vx.str_inv
    cases vy.str_inv
    split at p
    · rename_i hz
      exact op_add_str pins s σ H _ _ v u Q I rx ry ⟨i, j, rfl, rfl, by rw [← sl_line]; exact hz, p.done r (.str _)⟩
    · exact False.elim p
  · rename_i i j
    obtain ⟨a, vs, rfl, ha, qa⟩ := vx.tup_inv
    obtain ⟨b, ws, rfl, hb, qb⟩ := vy.tup_inv
    split at p
    · rename_i hz
      refine op_catA pins s σ H _ _ v u Q I rx ry ⟨a, b, vs, ws, rfl, rfl, SqT.of ha, SqT.of hb, by rw [← sl_line, ← qa.length, ← qb.length]; exact hz, fun e => ?_, fun _ e => ?_, fun _ _ => p.newT r (qa.append qb)⟩
      · subst e
        cases qa
        exact p.done r vy
      · subst e
        cases qb
        rw [List.append_nil] at p
        exact p.done r vx
    · exact False.elim p
  · rename_i i j
    split at p
    · rename_i l1 l2 e1 e2
      obtain ⟨a, vs, rfl, _, ha, qa, za⟩ := vx.lst_inv r e1
      obtain ⟨b, ws, rfl, _, hb, qb, zb⟩ := vy.lst_inv r e2
      split at p
      · rename_i hz
        have hz' : vs.length + ws.length ≤ sizeLine := by rw [← sl_line, ← qa.length, ← qb.length]; exact hz
        exact op_cat pins s σ H _ _ v u Q I rx ry ⟨a, b, vs, ws, rfl, rfl, ha, hb, hz', p.newL r (qa.append qb) (by rw [List.length_append]; exact hz')⟩
      · exact False.elim p
    · exact False.elim p
theorem mul_ok {i j : Int} (h : (decide (i.natAbs < 2 ^ 64) || decide (j.natAbs < 2 ^ 64) || decide (i.natAbs.log2 + j.natAbs.log2 < 1000000)) = true) : CMul i j ∨ CMulW i j := by
  simp only [Bool.or_eq_true, decide_eq_true_eq] at h
  rcases h with (h | h) | h
  · exact .inl (.inl (by omega))
  · exact .inl (.inr (by omega))
  · exact .inr h
theorem foldl_repN (its : List Nat) : ∀ (k : Nat) (acc : List Nat), List.foldl (fun x1 x2 => x1 ++ x2) acc.toArray (List.replicate k its.toArray) = (acc ++ (List.replicate k its).flatten).toArray
  | 0, acc => by simp
  | k + 1, acc => by
    have e : acc.toArray ++ its.toArray = (acc ++ its).toArray := by simp
    rw [List.replicate_succ, List.replicate_succ, List.foldl_cons, List.flatten_cons, e, foldl_repN its k, List.append_assoc]
theorem ob_mul : OpR X (binaryOp .Mult) (rO S mulD) := by
  rintro pins s σ H x y v u Q I rx ry ⟨m, h, dx, dy, r, vx, vy, p⟩
  unfold mulD at p
  split at p <;> try exact False.elim p
  · rename_i i j
    cases vx.int_inv
    cases vy.int_inv
    split at p
    · rename_i hz
      rcases mul_ok hz with hz | hz
      · exact op_mul pins s σ H _ _ v u Q I rx ry ⟨i, j, rfl, rfl, hz, p.done r (.int _)⟩
      · exact op_mulW pins s σ H _ _ v u Q I rx ry ⟨i, j, rfl, rfl, hz, p.done r (.int _)⟩
    · exact False.elim p
  · rename_i l k
    obtain ⟨a, vs, rfl, ha, qa⟩ := vx.tup_inv
    cases vy.int_inv
    split at p
    · rename_i hz
      simp only [Bool.and_eq_true, decide_eq_true_eq, Bool.not_eq_true', List.isEmpty_eq_false_iff] at hz
      obtain ⟨⟨⟨h0, h1⟩, h2⟩, h3⟩ := hz
      have hn : vs ≠ [] := fun z => by
        have := qa.length
        rw [z] at this
        exact h0 (List.eq_nil_of_length_eq_zero this)
      exact op_repT pins s σ H _ _ v u Q I rx ry ⟨a, k, vs, rfl, rfl, SqT.of ha, hn, h1, h2, by rw [← qa.length]; exact h3, p.newT r (qa.rep _)⟩
    · exact False.elim p
  · rename_i n k
    split at p
    · rename_i l e1
      obtain ⟨a, vs, rfl, _, ha, qa, za⟩ := vx.lst_inv r e1
      cases vy.int_inv
      split at p
      · rename_i hz
        simp only [Bool.and_eq_true, decide_eq_true_eq] at hz
        obtain ⟨⟨h1, h2⟩, h3⟩ := hz
        rw [sl_line, qa.length] at h3
        have h3' : ((List.replicate k.toNat vs).flatten).length ≤ sizeLine := by
          rw [List.length_flatten, List.map_replicate, List.sum_replicate_nat, Nat.mul_comm]; exact h3
        exact op_rep pins s σ H _ _ v u Q I rx ry ⟨a, k, vs, rfl, rfl, ha, by omega, by omega, h3, p.newL r (qa.rep _) h3'⟩
      · exact False.elim p
    · exact False.elim p
  · rename_i x0 k
    cases vx.str_inv
    cases vy.int_inv
    split at p
    · rename_i hz
      simp only [Bool.and_eq_true, decide_eq_true_eq] at hz
      obtain ⟨⟨h1, h2⟩, h3⟩ := hz
      obtain ⟨t, rfl⟩ := rx
      obtain ⟨t2, rfl⟩ := ry
      have hlen : ((x0.length : Int)) * k ≤ 16777216 := by
        have e : k = (k.toNat : Int) := by omega
        rw [e, ← Int.natCast_mul]
        exact Int.le_trans (Int.ofNat_le.mpr h3) (by decide)
      have hk : k ≤ 16777216 := by
        have : 1 * k ≤ (x0.length : Int) * k := Int.mul_le_mul_of_nonneg_right (by omega) (by omega)
        omega
      have hn1 : (k == 1 || x0.length == 0) = false := by
        rw [Bool.or_eq_false_iff, beq_eq_false_iff_ne, beq_eq_false_iff_ne]
        omega
      have hr : (decide (k < -(2 ^ 63 : Int)) || decide (k ≥ 2 ^ 63)) = false := by
        rw [Bool.or_eq_false_iff, decide_eq_false_iff_not, decide_eq_false_iff_not]
        omega
      refine PySem.P.mul_str hr (fun _ _ z => ?_) (fun _ _ => ?_) ?_
      · have hq : (x0.length : Int) ≤ (2 ^ 63 - 1) / k := by
          rw [Int.le_ediv_iff_mul_le (by omega)]
          omega
        omega
      · show decide (x0.length * k.toNat > sizeLine) = false
        rw [decide_eq_false_iff_not, ← sl_line]
        exact Nat.not_lt.mpr h3
      · rw [if_neg (by omega), hn1, if_neg (by decide)]
        have e : (List.replicate k.toNat x0.cps).foldl (· ++ ·) #[] = ((List.replicate k.toNat x0.cps.toList).flatten).toArray := by
          have := foldl_repN x0.cps.toList k.toNat []
          rw [List.nil_append] at this
          simpa using this
        rw [e]
        refine ⟨?_, .str _, H, I.tok _, ⟨_, rfl⟩, p.done r (.str _)⟩
        show ((List.replicate k.toNat x0.cps.toList).flatten).toArray.size ≤ sizeLine
        rw [List.size_toArray, List.length_flatten, List.map_replicate, List.sum_replicate_nat, Nat.mul_comm, sizeLine_eq]
        exact h3
    · exact False.elim p
theorem ob_bin (o : Bop) : OpR X (binaryOp (match o with | .add => .Add | .sub => .Sub | .mul => .Mult | .fdiv => .FloorDiv | .mod => .Mod | .pow => .Pow | .band => .BitAnd)) (rO S (binD o)) := by
  cases o
  · exact ob_add
  · exact ob_int0 op_sub
  · exact ob_mul
  · refine ob_int (C := CDivW) op_fdivW fun i j h => ?_
    simp only [Bool.and_eq_true, decide_eq_true_eq] at h
    exact h
  · exact ob_int (C := fun _ j => 0 < j) op_mod fun i j h => by simpa using h
  · refine ob_int (C := CPow) op_pow fun i j h => ?_
    simp only [Bool.and_eq_true, decide_eq_true_eq] at h
    exact ⟨h.1.1, h.1.2, h.2⟩
  · exact ob_int0 op_and

/-! ### comparisons -/
mutual
theorem pd_dp (hr : HR S m H h) : ∀ (k : Nat) (d : D) (v : V) (p : PyData), VR S m H d v → pd h k d = some p → Dp S.K H v p
  | k, .non, v, p, r, e => by
    cases r.non_inv
    cases k <;> (simp only [pd, Option.some.injEq] at e; subst e; exact .non)
  | k, .bl b, v, p, r, e => by
    cases r.bl_inv
    cases k <;> (simp only [pd, Option.some.injEq] at e; subst e; exact .bl b)
  | k, .int b, v, p, r, e => by
    cases r.int_inv
    cases k <;> (simp only [pd, Option.some.injEq] at e; subst e; exact .int b)
  | k, .str b, v, p, r, e => by
    cases r.str_inv
    cases k <;> (simp only [pd, Option.some.injEq] at e; subst e; exact .str b)
  | 0, .tup _, _, _, _, e => by simp [pd] at e
  | 0, .ref _, _, _, _, e => by simp [pd] at e
  | 0, .fn _, _, _, _, e => by simp [pd] at e
  | 0, .frz _, _, _, _, e => by simp [pd] at e
  | k + 1, .fn _, _, _, _, e => by simp [pd] at e
  | k + 1, .tup l, v, p, r, e => by
    obtain ⟨a, vs, rfl, ha, q⟩ := r.tup_inv
    have e' : (pds h k l).map PyData.tuple = some p := by simpa only [pd] using e
    obtain ⟨ps, e1, e2⟩ := Option.map_eq_some_iff.mp e'
    subst e2
    exact .tup (SqT.of ha) (pds_dp hr k l vs ps q e1)
  | k + 1, .frz l, v, p, r, e => by
    obtain ⟨a, vs, rfl, ha, q⟩ := r.frz_inv
    have e' : (pds h k l).map PyData.list = some p := by simpa only [pd] using e
    obtain ⟨ps, e1, e2⟩ := Option.map_eq_some_iff.mp e'
    subst e2
    exact .lst ha (pds_dp hr k l vs ps q e1)
  | k + 1, .ref n, v, p, r, e => by
    cases hn : h[n]? with
    | none => simp [pd, hn] at e
    | some o =>
      cases o with
      | lst l =>
        obtain ⟨a, vs, rfl, _, ha, q, _⟩ := r.lst_inv hr hn
        have e' : (pds h k l).map PyData.list = some p := by simpa [pd, hn] using e
        obtain ⟨ps, e1, e2⟩ := Option.map_eq_some_iff.mp e'
        subst e2
        exact .lst (SqL.of ha) (pds_dp hr k l vs ps q e1)
      | dct _ => simp [pd, hn] at e
      | ins _ _ => simp [pd, hn] at e
theorem pds_dp (hr : HR S m H h) : ∀ (k : Nat) (d : List D) (v : List V) (p : List PyData), VRs S m H d v → pds h k d = some p → DpAll S.K H v p
  | k, [], v, p, r, e => by
    cases r
    simp only [pds, Option.some.injEq] at e
    subst e
    exact .nil
  | k, d :: ds, v, p, r, e => by
    cases r with
    | cons a b =>
      unfold pds at e
      split at e
      · rename_i x xs e1 e2
        cases e
        exact .cons (pd_dp hr k d _ _ a e1) (pds_dp hr k ds _ _ b e2)
      · cases e
end
theorem cmpD_nx (o : Cop) (x y : D) (h : Hh) (e : Exn) (h' : Hh) : cmpD o x y h ≠ .ex e h' := by
  cases o
  case eq => exact Rs.lift_nx _ _ _ _
  case ne => exact Rs.lift_nx _ _ _ _
  case inn => exact Rs.lift_nx _ _ _ _
  case nin => exact Rs.lift_nx _ _ _ _
  all_goals (show icmpD _ x y h ≠ _; unfold icmpD; split <;> (intro z; cases z))
theorem oc_int {f : Value → Value → Sem Value} {g : Int → Int → Bool} (ho : OpR X f (rI0 fun i j => .bl (g i j))) : OpR X f (rO S (icmpD g)) := by
  rintro pins s σ H x y v u Q I rx ry ⟨m, h, dx, dy, r, vx, vy, p⟩
  unfold icmpD at p
  split at p <;> try exact False.elim p
  rename_i i j
  cases vx.int_inv
  cases vy.int_inv
  exact ho pins s σ H _ _ v u Q I rx ry ⟨i, j, rfl, rfl, p.done r (.bl _)⟩
theorem eqD_of (hr : HR S m H h) {a b : D} {x y : V} (ra : VR S m H a x) (rb : VR S m H b y) {k : Bool} (e : eqD0 h a b = some k) : ∃ d e, Dp S.K H x d ∧ Dp S.K H y e ∧ SeqAt.shaped d = true ∧ SeqAt.shaped e = true ∧ PyData.eqv d e = k := by
  unfold eqD0 at e
  split at e
  · rename_i p q e1 e2
    split at e
    · rename_i hs
      rw [Bool.and_eq_true] at hs
      exact ⟨p, q, pd_dp hr _ _ _ _ ra e1, pd_dp hr _ _ _ _ rb e2, hs.1, hs.2, Option.some.inj e⟩
    · cases e
  · cases e
theorem oc_eq (hK : X.K = S.K) (hu : X.A.units + 64 < cLine) : OpR X (compareOp .Eq) (rO S (cmpD .eq)) := by
  rintro pins s σ H x y v u Q I rx ry ⟨m, h, dx, dy, r, vx, vy, p⟩
  have p' : Po S (RV S) (Rs.lift ((eqD h dx dy).map .bl) h) m H (fun _ _ _ => False) Q := p
  cases e : eqD h dx dy with
  | none => rw [e] at p'; exact False.elim p'
  | some k =>
    rw [e] at p'
    unfold eqD at e
    split at e
    · rename_i x0 y0
      cases vx.str_inv
      cases vy.str_inv
      cases e
      refine op_eq pins s σ H _ _ v u Q I rx ry ⟨rfl, ?_⟩
      rw [dec_str]
      exact Po.done p' r (.bl _)
    obtain ⟨d, e', a1, a2, a3, a4, a5⟩ := eqD_of r vx vy e
    refine op_eqD hu pins s σ H _ _ v u Q I rx ry ⟨d, e', hK ▸ a1, hK ▸ a2, a3, a4, ?_⟩
    rw [a5]
    exact Po.done p' r (.bl _)
theorem oc_ne (hK : X.K = S.K) (hu : X.A.units + 64 < cLine) : OpR X (compareOp .NotEq) (rO S (cmpD .ne)) := by
  rintro pins s σ H x y v u Q I rx ry ⟨m, h, dx, dy, r, vx, vy, p⟩
  have p' : Po S (RV S) (Rs.lift ((eqD h dx dy).map fun c => .bl (!c)) h) m H (fun _ _ _ => False) Q := p
  cases e : eqD h dx dy with
  | none => rw [e] at p'; exact False.elim p'
  | some k =>
    rw [e] at p'
    unfold eqD at e
    split at e
    · rename_i x0 y0
      cases vx.str_inv
      cases vy.str_inv
      cases e
      refine op_ne pins s σ H _ _ v u Q I rx ry ⟨rfl, ?_⟩
      rw [dec_str]
      exact Po.done p' r (.bl _)
    obtain ⟨d, e', a1, a2, a3, a4, a5⟩ := eqD_of r vx vy e
    refine op_neD hu pins s σ H _ _ v u Q I rx ry ⟨d, e', hK ▸ a1, hK ▸ a2, a3, a4, ?_⟩
    rw [a5]
    exact Po.done p' r (.bl _)

theorem flat_v {d : D} {v : V} (r : VR S m H d v) (e : flatD d = true) : flatV v = true := by
  cases r
  case non => exact rfl
  case bl => exact rfl
  case int => exact rfl
  case str => exact rfl
  all_goals exact absurd e (by simp [flatD])
theorem flats_v {d : List D} {v : List V} (r : VRs S m H d v) (e : d.all flatD = true) : v.all flatV = true := by
  induction d generalizing v with
  | nil =>
    cases r
    rfl
  | cons x xs ih =>
    cases r with
    | cons a b =>
      rw [List.all_cons, Bool.and_eq_true] at e
      rw [List.all_cons, Bool.and_eq_true]
      exact ⟨flat_v a e.1, ih b e.2⟩
theorem flat_eqv {k : Nat} {d e : D} {v w : V} {p q : PyData} (a : VR S m H d v) (b : VR S m H e w) (fa : flatD d = true) (fb : flatD e = true) (ea : pd h (k + 1) d = some p) (eb : pd h (k + 1) e = some q) : eqV v w = PyData.eqv p q := by
  cases a
  case tup => exact absurd fa (by simp [flatD])
  case ref => exact absurd fa (by simp [flatD])
  case fn => exact absurd fa (by simp [flatD])
  case frz => exact absurd fa (by simp [flatD])
  all_goals cases b
  all_goals first
    | (simp only [pd, Option.some.injEq] at ea eb; subst ea; subst eb; simp [eqV, PyData.eqv]; done)
    | (simp [flatD] at fb; done)
theorem flats_any {k : Nat} {d : D} {v : V} {p : PyData} (a : VR S m H d v) (fa : flatD d = true) (ea : pd h (k + 1) d = some p) {l : List D} {ws : List V} {ps : List PyData} (r : VRs S m H l ws) (fl : l.all flatD = true) (e : pds h (k + 1) l = some ps) : inV v ws = ps.any fun z => PyData.eqv z p := by
  induction l generalizing ws ps with
  | nil =>
    cases r
    simp only [pds, Option.some.injEq] at e
    subst e
    rfl
  | cons x xs ih =>
    cases r with
    | cons b bs =>
      rw [List.all_cons, Bool.and_eq_true] at fl
      unfold pds at e
      split at e
      · rename_i y ys e1 e2
        cases e
        unfold inV
        rw [List.any_cons, List.any_cons, flat_eqv b a fl.1 fa e1 ea]
        have := ih bs fl.2 e2
        unfold inV at this
        rw [this]
      · cases e
theorem oc_in (hK : X.K = S.K) (hu : X.A.units + 65 < cLine) (neg : Bool) : OpR X (compareOp (if neg then .NotIn else .In)) (rO S (cmpD (if neg then .nin else .inn))) := by
  rintro pins s σ H x y v u Q I rx ry ⟨m, h, dx, dy, r, vx, vy, p⟩
  have p' : ∃ k, inD h dx dy = some k ∧ Q (.bl (if neg then !k else k)) H := by
    cases e : inD h dx dy with
    | none =>
      cases neg
      · have p' : Po S (RV S) (Rs.lift ((inD h dx dy).map .bl) h) m H (fun _ _ _ => False) Q := p
        rw [e] at p'; exact False.elim p'
      · have p' : Po S (RV S) (Rs.lift ((inD h dx dy).map fun c => .bl (!c)) h) m H (fun _ _ _ => False) Q := p
        rw [e] at p'; exact False.elim p'
    | some k =>
      refine ⟨k, rfl, ?_⟩
      cases neg
      · have p' : Po S (RV S) (Rs.lift ((inD h dx dy).map .bl) h) m H (fun _ _ _ => False) Q := p
        rw [e] at p'
        exact Po.done p' r (.bl _)
      · have p' : Po S (RV S) (Rs.lift ((inD h dx dy).map fun c => .bl (!c)) h) m H (fun _ _ _ => False) Q := p
        rw [e] at p'
        exact Po.done p' r (.bl _)
  obtain ⟨k, e, q⟩ := p'
  have lst : ∀ (l : List D), lstD h dy = some l → ∀ d ds, pd h 60 dx = some d → pds h 59 l = some ds → SeqAt.shaped d = true → SeqAt.shaped (.list ds) = true → (ds.any fun z => PyData.eqv z d) = k →
      wpAny (model X.prog X.w) X.A (compareOp (if neg then .NotIn else .In) v u) (EP X pins σ Q) X.xe s := fun l el d ds e1 e2 s1 s2 e3 => by
    obtain ⟨a, ws, rfl, ha, qa⟩ := lst_inv r vy el
    have D1 := pd_dp r _ _ _ _ vx e1
    have D2 : Dp S.K H (.ref a) (.list ds) := .lst ha (pds_dp r _ _ _ _ qa e2)
    cases neg
    · exact op_inD hu pins s σ H _ _ v u Q I rx ry ⟨d, ds, hK ▸ D1, hK ▸ D2, s1, s2, by rw [e3]; exact q⟩
    · exact op_notInD hu pins s σ H _ _ v u Q I rx ry ⟨d, ds, hK ▸ D1, hK ▸ D2, s1, s2, by rw [e3]; exact q⟩
  unfold inD at e
  split at e
  · rename_i l
    split at e
    · rename_i hf
      rw [Bool.and_eq_true] at hf
      split at e
      · rename_i d ds e1 e2
        cases e
        obtain ⟨a, ws, rfl, ha, qa⟩ := vy.tup_inv
        have z := flats_any vx hf.1 e1 qa hf.2 e2
        cases neg
        · exact op_in_seq pins s σ H _ _ v u Q I rx ry ⟨a, ws, rfl, .inr (SqT.of ha), flat_v vx hf.1, flats_v qa hf.2, by rw [z]; exact q⟩
        · exact op_notIn_seq pins s σ H _ _ v u Q I rx ry ⟨a, ws, rfl, .inr (SqT.of ha), flat_v vx hf.1, flats_v qa hf.2, by rw [z]; exact q⟩
      · cases e
    · cases e
  · split at e
    · cases e
      cases vx.str_inv
      cases vy.str_inv
      cases neg
      · exact op_in_str pins s σ H _ _ v u Q I rx ry ⟨_, _, rfl, rfl, q⟩
      · exact op_notin_str pins s σ H _ _ v u Q I rx ry ⟨_, _, rfl, rfl, q⟩
    · cases e
  · split at e
    · rename_i l el
      split at e
      · rename_i d ds e1 e2
        split at e
        · rename_i hs
          rw [Bool.and_eq_true] at hs
          exact lst l el d ds e1 e2 hs.1 hs.2 (Option.some.inj e)
        · cases e
      · cases e
    · cases e
end
end MP

set_option Elab.async false
set_option linter.all false
set_option maxRecDepth 100000
set_option autoImplicit false
set_option maxHeartbeats 1000000
/-! Mp4: subscripts, slices, built-ins, methods, isinstance, by values. -/
namespace MP
open PySem PySem.Spec L2
section
variable {X : Cx} {S : Sta} {m : List Addr} {H : Hp} {h : Hh}
theorem ixD_nx (x y : D) (h : Hh) (e : Exn) (h' : Hh) : ixD x y h ≠ .ex e h' := by
  unfold ixD
  split
  case h_1 => exact Rs.lift_nx _ _ _ _
  case h_2 => split; exact Rs.lift_nx _ _ _ _; (intro z; cases z)
  case h_3 => exact Rs.lift_nx _ _ _ _
  case h_4 => split; exact Rs.lift_nx _ _ _ _; (intro z; cases z)
  case h_5 => intro z; cases z
theorem atI_map {l : List D} {vs : List V} (q : VRs S m H l vs) {i : Int} {d : D} (e : atI l i = some d) : ∃ v, atI vs i = some v ∧ VR S m H d v := by
  unfold atI at e ⊢
  rw [← q.length]
  obtain ⟨j, e1, e2⟩ := Option.bind_eq_some_iff.mp e
  obtain ⟨v, e3, e4⟩ := q.get e2
  exact ⟨v, by rw [e1]; exact e3, e4⟩
theorem io_ix (hK : X.K = S.K) : IxR X (rO S ixD) := by
  rintro value slice pins s σ H x y v u Q I rx ry ⟨m, h, dx, dy, r, vx, vy, p⟩ hs
  refine ix_seq value slice pins s σ H _ _ v u Q I rx ry ?_ hs
  have get : ∀ {l : List D} {i : Int}, (∃ a vs, x = .ref a ∧ (SqL S.K H a vs ∨ SqT S.K H a vs) ∧ VRs S m H l vs) → y = .int i → Po S (RV S) (Rs.lift (atI l i) h) m H (fun _ _ _ => False) Q → rIx X.K x y H Q := fun {l i} ⟨a, vs, ea, hq, q⟩ ey p => by
    subst ea ey
    cases e : atI l i with
    | none => rw [e] at p; exact False.elim p
    | some d =>
      rw [e] at p
      obtain ⟨w, e1, e2⟩ := atI_map q e
      rcases hq with hq | hq
      · exact .inl ⟨a, vs, i, w, rfl, rfl, hK ▸ hq, e1, Po.done p r e2⟩
      · exact .inr (.inl ⟨a, vs, i, w, rfl, rfl, hK ▸ hq, e1, Po.done p r e2⟩)
  unfold ixD at p
  split at p <;> try exact False.elim p
  · obtain ⟨a, vs, e1, e2, e3⟩ := vx.tup_inv
    exact get ⟨a, vs, e1, .inr (SqT.of e2), e3⟩ vy.int_inv p
  · split at p
    · rename_i hn
      obtain ⟨a, vs, e1, e2, e3, e4, _⟩ := vx.lst_inv r hn
      exact get ⟨a, vs, e1, .inl (SqL.of e3), e4⟩ vy.int_inv p
    · exact False.elim p
  · obtain ⟨a, vs, e1, e2, e3⟩ := vx.frz_inv
    exact get ⟨a, vs, e1, .inl e2, e3⟩ vy.int_inv p
  · rename_i z i
    cases vx.str_inv
    cases vy.int_inv
    split at p
    · rename_i hz
      cases e : atI z.cps.toList i with
      | none => rw [e] at p; exact False.elim p
      | some c =>
        rw [e] at p
        exact .inr (.inr ⟨z, i, c, rfl, rfl, by rw [← sl_line]; exact hz, e, Po.done p r (.str _)⟩)
    · exact False.elim p

/-! ### slices -/
theorem cut_map {l : List D} {vs : List V} (q : VRs S m H l vs) (lo hi : Option Int) : VRs S m H (cutL l lo hi) (cutV vs lo hi) := by
  unfold cutL cutV
  rw [← q.length]
  exact (q.drop _).take _
theorem slD_nx (x : D) (lo hi : Option Int) (h : Hh) (e : Exn) (h' : Hh) : slD x lo hi h ≠ .ex e h' := by
  unfold slD
  split <;> (try split) <;> (intro z; cases z)
def rSl (S : Sta) : V → Option Int → Option Int → Hp → VK → Prop := fun x lo hi H Q => ∃ m h dx, HR S m H h ∧ VR S m H dx x ∧ Po S (RV S) (slD dx lo hi h) m H (fun _ _ _ => False) Q
theorem so_sl (hK : X.K = S.K) : SlR X (rSl S) := by
  rintro pins s σ H x v vl vu lo hi sl Q I rx hs pl pu ⟨m, h, dx, r, vx, p⟩
  unfold slD at p
  split at p <;> try exact False.elim p
  · rename_i l
    obtain ⟨a, vs, rfl, e2, e3⟩ := vx.tup_inv
    refine sl_tupA pins s σ H _ v vl vu lo hi sl Q I rx hs pl pu ⟨a, vs, rfl, SqT.of e2, fun hw => ?_, fun _ => p.newT r (cut_map e3 lo hi)⟩
    have e : cutL l lo hi = l := by
      unfold cutL
      rw [e3.length, hw.1, hw.2, List.drop_zero, Nat.sub_zero, ← e3.length, List.take_length]
    rw [e] at p
    exact p.done r vx
  · split at p
    · rename_i l hn
      obtain ⟨a, vs, rfl, e2, e3, e4, e5⟩ := vx.lst_inv r hn
      exact sl_list pins s σ H _ v vl vu lo hi sl Q I rx hs pl pu ⟨a, vs, rfl, SqL.of e3, p.newL r (cut_map e4 lo hi) (Nat.le_trans (cutV_length _ _ _) e5)⟩
    · exact False.elim p
  · rename_i l
    obtain ⟨a, vs, rfl, e2, e3⟩ := vx.frz_inv
    have hz : vs.length ≤ sizeLine := (I.list (hK ▸ e2)).elim fun _ z => z.2.2
    exact sl_list pins s σ H _ v vl vu lo hi sl Q I rx hs pl pu ⟨a, vs, rfl, hK ▸ e2, p.newL r (cut_map e3 lo hi) (Nat.le_trans (cutV_length _ _ _) hz)⟩
  · rename_i z
    cases vx.str_inv
    split at p
    · rename_i hz
      exact sl_str pins s σ H _ v vl vu lo hi sl Q I rx hs pl pu ⟨z, rfl, by rw [← sl_line]; exact hz, p.done r (.str _)⟩
    · exact False.elim p

/-! ### built-ins -/
def rF (S : Sta) (f : List D → Hh → Rs D) : List V → Hp → VK → Prop := fun xs H Q => ∃ m h ds, HR S m H h ∧ VRs S m H ds xs ∧ Po S (RV S) (f ds h) m H (fun _ _ _ => False) Q
theorem VRs.one_inv {a : D} {xs : List V} (r : VRs S m H [a] xs) : ∃ v, xs = [v] ∧ VR S m H a v := by
  cases r with
  | cons a b => cases b; exact ⟨_, rfl, a⟩
theorem VRs.two_inv {a b : D} {xs : List V} (r : VRs S m H [a, b] xs) : ∃ v w, xs = [v, w] ∧ VR S m H a v ∧ VR S m H b w := by
  cases r with
  | cons a b =>
    cases b with
    | cons b c => cases c; exact ⟨_, _, rfl, a, b⟩
theorem dInts_v : ∀ {l : List D} {vs : List V} {ns : List Int}, VRs S m H l vs → dInts l = some ns → vs = ns.map V.int
  | [], vs, ns, r, e => by
    cases r
    simp only [dInts, Option.some.injEq] at e
    subst e; rfl
  | .int i :: l, vs, ns, r, e => by
    cases r with
    | cons a b =>
      cases a.int_inv
      simp only [dInts] at e
      obtain ⟨ns', e1, e2⟩ := Option.map_eq_some_iff.mp e
      subst e2
      rw [dInts_v b e1]; rfl
  | .non :: _, _, _, _, e => by simp [dInts] at e
  | .bl _ :: _, _, _, _, e => by simp [dInts] at e
  | .str _ :: _, _, _, _, e => by simp [dInts] at e
  | .tup _ :: _, _, _, _, e => by simp [dInts] at e
  | .ref _ :: _, _, _, _, e => by simp [dInts] at e
  | .fn _ :: _, _, _, _, e => by simp [dInts] at e
  | .frz _ :: _, _, _, _, e => by simp [dInts] at e
theorem dBls_v : ∀ {l : List D} {vs : List V} {ns : List Bool}, VRs S m H l vs → dBls l = some ns → vs = ns.map V.bl
  | [], vs, ns, r, e => by
    cases r
    simp only [dBls, Option.some.injEq] at e
    subst e; rfl
  | .bl i :: l, vs, ns, r, e => by
    cases r with
    | cons a b =>
      cases a.bl_inv
      simp only [dBls] at e
      obtain ⟨ns', e1, e2⟩ := Option.map_eq_some_iff.mp e
      subst e2
      rw [dBls_v b e1]; rfl
  | .non :: _, _, _, _, e => by simp [dBls] at e
  | .int _ :: _, _, _, _, e => by simp [dBls] at e
  | .str _ :: _, _, _, _, e => by simp [dBls] at e
  | .tup _ :: _, _, _, _, e => by simp [dBls] at e
  | .ref _ :: _, _, _, _, e => by simp [dBls] at e
  | .fn _ :: _, _, _, _, e => by simp [dBls] at e
  | .frz _ :: _, _, _, _, e => by simp [dBls] at e
theorem dStrs_v : ∀ {l : List D} {vs : List V} {ns : List Str}, VRs S m H l vs → dStrs l = some ns → vs = ns.map V.str
  | [], vs, ns, r, e => by
    cases r
    simp only [dStrs, Option.some.injEq] at e
    subst e; rfl
  | .str i :: l, vs, ns, r, e => by
    cases r with
    | cons a b =>
      cases a.str_inv
      simp only [dStrs] at e
      obtain ⟨ns', e1, e2⟩ := Option.map_eq_some_iff.mp e
      subst e2
      rw [dStrs_v b e1]; rfl
  | .non :: _, _, _, _, e => by simp [dStrs] at e
  | .int _ :: _, _, _, _, e => by simp [dStrs] at e
  | .bl _ :: _, _, _, _, e => by simp [dStrs] at e
  | .tup _ :: _, _, _, _, e => by simp [dStrs] at e
  | .ref _ :: _, _, _, _, e => by simp [dStrs] at e
  | .fn _ :: _, _, _, _, e => by simp [dStrs] at e
  | .frz _ :: _, _, _, _, e => by simp [dStrs] at e
theorem strs_v : ∀ (ys : List Str), VRs S m H (ys.map D.str) (ys.map V.str)
  | [] => .nil
  | y :: ys => .cons (.str y) (strs_v ys)

theorem VRs.nil_inv {xs : List V} (r : VRs S m H [] xs) : xs = [] := by cases r; rfl
theorem lstB {α : Type} {f : List D → Option α} {d : D} {r : α} (e : (lstD h d).bind f = some r) : ∃ l, lstD h d = some l ∧ f l = some r := Option.bind_eq_some_iff.mp e
theorem cb_len (hK : X.K = S.K) : CallR X (.builtin "len") (rF S lenD) := by
  rintro pins s σ H xs us Q I rs ⟨m, h, ds, r, q, p⟩
  unfold lenD at p
  split at p <;> try exact False.elim p
  · obtain ⟨v, rfl, a⟩ := q.one_inv
    cases a.str_inv
    split at p
    · rename_i hz
      exact call_len pins s σ H _ us Q I rs ⟨_, _, rfl, ⟨by rw [← sl_line]; exact hz, rfl⟩, p.done r (.int _)⟩
    · exact False.elim p
  · obtain ⟨v, rfl, a⟩ := q.one_inv
    obtain ⟨b, vs, rfl, e2, e3⟩ := a.tup_inv
    rw [e3.length] at p
    exact call_len_seq pins s σ H _ us Q I rs ⟨_, _, rfl, .inr (SqT.of e2), p.done r (.int _)⟩
  · obtain ⟨v, rfl, a⟩ := q.one_inv
    obtain ⟨b, vs, rfl, e2, e3⟩ := a.frz_inv
    rw [e3.length] at p
    exact call_len_seq pins s σ H _ us Q I rs ⟨_, _, rfl, .inl (hK ▸ e2), p.done r (.int _)⟩
  · obtain ⟨v, rfl, a⟩ := q.one_inv
    split at p
    · rename_i hn
      obtain ⟨b, vs, rfl, _, e2, e3, _⟩ := a.lst_inv r hn
      rw [e3.length] at p
      exact call_len_seq pins s σ H _ us Q I rs ⟨_, _, rfl, .inl (SqL.of e2), p.done r (.int _)⟩
    · rename_i kvs hn
      obtain ⟨b, vs, rfl, _, e2, e3⟩ := a.dct_inv r hn
      have hl : kvs.length = vs.length := by
        clear p hn a e2
        induction e3 with
        | nil => rfl
        | cons _ _ _ ih => simp [ih]
      rw [hl] at p
      exact call_lenD pins s σ H _ us Q I rs ⟨b, vs, rfl, e2, p.done r (.int _)⟩
    · exact False.elim p
theorem cb_abs : CallR X (.builtin "abs") (rF S absD) := by
  rintro pins s σ H xs us Q I rs ⟨m, h, ds, r, q, p⟩
  unfold absD at p
  split at p <;> try exact False.elim p
  obtain ⟨v, rfl, a⟩ := q.one_inv
  cases a.int_inv
  exact call_abs pins s σ H _ us Q I rs ⟨_, rfl, p.done r (.int _)⟩
theorem maxI_mem : ∀ (l : List Int) (a : Int), (maxI a l = a ∨ maxI a l ∈ l) ∧ a ≤ maxI a l ∧ ∀ y ∈ l, y ≤ maxI a l
  | [], a => ⟨.inl rfl, Int.le_refl _, fun _ h => by cases h⟩
  | x :: xs, a => by
    obtain ⟨h1, h2, h3⟩ := maxI_mem xs (if a < x then x else a)
    unfold maxI
    refine ⟨?_, ?_, ?_⟩
    · rcases h1 with h1 | h1
      · rw [h1]
        split
        · exact .inr List.mem_cons_self
        · exact .inl rfl
      · exact .inr (List.mem_cons_of_mem _ h1)
    · refine Int.le_trans ?_ h2
      split <;> omega
    · intro y hy
      rcases List.mem_cons.mp hy with rfl | hy
      · refine Int.le_trans ?_ h2
        split <;> omega
      · exact h3 y hy
theorem minI_mem : ∀ (l : List Int) (a : Int), (minI a l = a ∨ minI a l ∈ l) ∧ minI a l ≤ a ∧ ∀ y ∈ l, minI a l ≤ y
  | [], a => ⟨.inl rfl, Int.le_refl _, fun _ h => by cases h⟩
  | x :: xs, a => by
    obtain ⟨h1, h2, h3⟩ := minI_mem xs (if x < a then x else a)
    unfold minI
    refine ⟨?_, ?_, ?_⟩
    · rcases h1 with h1 | h1
      · rw [h1]
        split
        · exact .inr List.mem_cons_self
        · exact .inl rfl
      · exact .inr (List.mem_cons_of_mem _ h1)
    · refine Int.le_trans h2 ?_
      split <;> omega
    · intro y hy
      rcases List.mem_cons.mp hy with rfl | hy
      · refine Int.le_trans h2 ?_
        split <;> omega
      · exact h3 y hy
theorem cb_max (hc : X.calm = true) (hK : X.K = S.K) : CallR X (.builtin "max") (rF S maxD) := by
  rintro pins s σ H xs us Q I rs ⟨m, h, ds, r, q, p⟩
  unfold maxD at p
  split at p <;> try exact False.elim p
  · obtain ⟨v, w, rfl, a, b⟩ := q.two_inv
    cases a.int_inv
    cases b.int_inv
    exact call_max2 hc pins s σ H _ us Q I rs ⟨_, _, rfl, p.done r (.int _)⟩
  · split at p
    · rename_i n ns e
      obtain ⟨l, e1, e2⟩ := lstB e
      obtain ⟨v, rfl, a⟩ := q.one_inv
      obtain ⟨b, vs, rfl, e3, e4⟩ := lst_inv r a e1
      have ev := dInts_v e4 e2
      subst ev
      refine cr_max hc pins s σ H _ us Q I rs ⟨b, n :: ns, rfl, hK ▸ e3, Nat.succ_pos _, fun k h1 h2 => ?_⟩
      obtain ⟨g1, g2, g3⟩ := maxI_mem ns n
      have hk : k = maxI n ns := by
        refine Int.le_antisymm ?_ (h2 _ (g1.elim (fun z => by rw [z]; exact List.mem_cons_self) (List.mem_cons_of_mem _)))
        rcases List.mem_cons.mp h1 with rfl | h1
        · exact g2
        · exact g3 _ h1
      subst hk
      exact p.done r (.int _)
    · exact False.elim p
theorem cb_min (hc : X.calm = true) (hK : X.K = S.K) : CallR X (.builtin "min") (rF S minD) := by
  rintro pins s σ H xs us Q I rs ⟨m, h, ds, r, q, p⟩
  unfold minD at p
  split at p <;> try exact False.elim p
  · obtain ⟨v, w, rfl, a, b⟩ := q.two_inv
    cases a.int_inv
    cases b.int_inv
    exact call_min2 hc pins s σ H _ us Q I rs ⟨_, _, rfl, p.done r (.int _)⟩
  · split at p
    · rename_i n ns e
      obtain ⟨l, e1, e2⟩ := lstB e
      obtain ⟨v, rfl, a⟩ := q.one_inv
      obtain ⟨b, vs, rfl, e3, e4⟩ := lst_inv r a e1
      have ev := dInts_v e4 e2
      subst ev
      refine cr_min hc pins s σ H _ us Q I rs ⟨b, n :: ns, rfl, hK ▸ e3, Nat.succ_pos _, fun k h1 h2 => ?_⟩
      obtain ⟨g1, g2, g3⟩ := minI_mem ns n
      have hk : k = minI n ns := by
        refine Int.le_antisymm (h2 _ (g1.elim (fun z => by rw [z]; exact List.mem_cons_self) (List.mem_cons_of_mem _))) ?_
        rcases List.mem_cons.mp h1 with rfl | h1
        · exact g2
        · exact g3 _ h1
      subst hk
      exact p.done r (.int _)
    · exact False.elim p
theorem cb_int : CallR X (.type "int") (rF S intOfD) := by
  rintro pins s σ H xs us Q I rs ⟨m, h, ds, r, q, p⟩
  unfold intOfD at p
  split at p <;> try exact False.elim p
  · obtain ⟨v, rfl, a⟩ := q.one_inv
    cases a.int_inv
    exact call_int1 pins s σ H _ us Q I rs (.inl ⟨_, rfl, p.done r (.int _)⟩)
  · obtain ⟨v, rfl, a⟩ := q.one_inv
    cases a.bl_inv
    exact call_int1 pins s σ H _ us Q I rs (.inr ⟨_, rfl, p.done r (.int _)⟩)
  · rename_i z
    obtain ⟨v, rfl, a⟩ := q.one_inv
    cases a.str_inv
    split at p
    · rename_i hz
      cases e : PySem.intText? z with
      | none => rw [e] at p; exact False.elim p
      | some n =>
        rw [e] at p
        exact call_int_str pins s σ H _ us Q I rs ⟨_, n, rfl, e, hz, Po.done p r (.int _)⟩
    · exact False.elim p
theorem cb_str : CallR X (.type "str") (rF S strOfD) := by
  rintro pins s σ H xs us Q I rs ⟨m, h, ds, r, q, p⟩
  unfold strOfD at p
  split at p <;> try exact False.elim p
  obtain ⟨v, rfl, a⟩ := q.one_inv
  cases a.int_inv
  split at p
  · rename_i hz
    exact call_str_int pins s σ H _ us Q I rs ⟨_, rfl, hz, p.done r (.str _)⟩
  · exact False.elim p
theorem cb_list (hK : X.K = S.K) : CallR X (.type "list") (rF S listOfD) := by
  rintro pins s σ H xs us Q I rs ⟨m, h, ds, r, q, p⟩
  unfold listOfD at p
  split at p <;> try exact False.elim p
  split at p
  · rename_i l e
    obtain ⟨v, rfl, a⟩ := q.one_inv
    obtain ⟨b, vs, rfl, e3, e4⟩ := seq_inv r a e
    have hz : vs.length ≤ sizeLine := by
      rcases e3 with e3 | e3
      · exact (I.list (hK ▸ e3)).elim fun _ z => z.2.2
      · exact (I.tuple (hK ▸ e3)).elim fun _ z => z.2.2
    exact call_list_of pins s σ H _ us Q I rs ⟨b, vs, rfl, hK ▸ e3, p.newL r e4 hz⟩
  · exact False.elim p
theorem cb_tuple (hK : X.K = S.K) : CallR X (.type "tuple") (rF S tupleOfD) := by
  rintro pins s σ H xs us Q I rs ⟨m, h, ds, r, q, p⟩
  unfold tupleOfD at p
  split at p <;> try exact False.elim p
  split at p
  · rename_i d _ l e
    obtain ⟨v, rfl, a⟩ := q.one_inv
    cases d with
    | tup l' =>
      have e' : l' = l := Option.some.inj e
      subst e'
      obtain ⟨b, vs, rfl, e3, e4⟩ := a.tup_inv
      exact call_tuple_of pins s σ H _ us Q I rs ⟨b, vs, rfl, .inr ⟨SqT.of e3, p.done r a⟩⟩
    | frz l' =>
      have e' : l' = l := Option.some.inj e
      subst e'
      obtain ⟨b, vs, rfl, e3, e4⟩ := a.frz_inv
      exact call_tuple_of pins s σ H _ us Q I rs ⟨b, vs, rfl, .inl ⟨hK ▸ e3, p.newT r e4⟩⟩
    | ref n =>
      have e' : lstD h (.ref n) = some l := e
      obtain ⟨b, vs, rfl, e3, e4⟩ := lst_inv r a e'
      exact call_tuple_of pins s σ H _ us Q I rs ⟨b, vs, rfl, .inl ⟨hK ▸ e3, p.newT r e4⟩⟩
    | non => cases e
    | bl _ => cases e
    | int _ => cases e
    | str _ => cases e
    | fn _ => cases e
  · exact False.elim p
theorem cb_all (hc : X.calm = true) (hK : X.K = S.K) : CallR X (.builtin "all") (rF S allD) := by
  rintro pins s σ H xs us Q I rs ⟨m, h, ds, r, q, p⟩
  unfold allD at p
  split at p <;> try exact False.elim p
  split at p
  · rename_i bs e
    obtain ⟨l, e1, e2⟩ := lstB e
    obtain ⟨v, rfl, a⟩ := q.one_inv
    obtain ⟨b, vs, rfl, e3, e4⟩ := lst_inv r a e1
    have ev := dBls_v e4 e2
    subst ev
    exact cr_all hc pins s σ H _ us Q I rs ⟨b, bs, rfl, hK ▸ e3, p.done r (.bl _)⟩
  · exact False.elim p
theorem cb_any (hc : X.calm = true) (hK : X.K = S.K) : CallR X (.builtin "any") (rF S anyD) := by
  rintro pins s σ H xs us Q I rs ⟨m, h, ds, r, q, p⟩
  unfold anyD at p
  split at p <;> try exact False.elim p
  split at p
  · rename_i bs e
    obtain ⟨l, e1, e2⟩ := lstB e
    obtain ⟨v, rfl, a⟩ := q.one_inv
    obtain ⟨b, vs, rfl, e3, e4⟩ := lst_inv r a e1
    have ev := dBls_v e4 e2
    subst ev
    exact cr_any hc pins s σ H _ us Q I rs ⟨b, bs, rfl, hK ▸ e3, p.done r (.bl _)⟩
  · exact False.elim p
theorem cb_sum (hc : X.calm = true) (hK : X.K = S.K) : CallR X (.builtin "sum") (rF S sumD) := by
  rintro pins s σ H xs us Q I rs ⟨m, h, ds, r, q, p⟩
  unfold sumD at p
  split at p <;> try exact False.elim p
  split at p
  · rename_i bs e
    obtain ⟨l, e1, e2⟩ := lstB e
    obtain ⟨v, rfl, a⟩ := q.one_inv
    obtain ⟨b, vs, rfl, e3, e4⟩ := lst_inv r a e1
    have ev := dInts_v e4 e2
    subst ev
    exact cr_sum hc pins s σ H _ us Q I rs ⟨b, bs, rfl, hK ▸ e3, p.done r (.int _)⟩
  · exact False.elim p
theorem bifD_nx (b : Bf) (xs : List D) (h : Hh) (e : Exn) (h' : Hh) : bifD b xs h ≠ .ex e h' := by
  cases b
  case int =>
    show intOfD xs h ≠ _
    unfold intOfD
    split <;> (try split) <;> first | exact Rs.lift_nx _ _ _ _ | (intro z; cases z)
  case len => show lenD xs h ≠ _; unfold lenD; split <;> (try split) <;> (intro z; cases z)
  case abs => show absD xs h ≠ _; unfold absD; split <;> (intro z; cases z)
  case max => show maxD xs h ≠ _; unfold maxD; split <;> (try split) <;> (intro z; cases z)
  case min => show minD xs h ≠ _; unfold minD; split <;> (try split) <;> (intro z; cases z)
  case mind => show mindD xs h ≠ _; unfold mindD; split <;> (try split) <;> (intro z; cases z)
  case str => show strOfD xs h ≠ _; unfold strOfD; split <;> (try split) <;> (intro z; cases z)
  case list => show listOfD xs h ≠ _; unfold listOfD; split <;> (try split) <;> (intro z; cases z)
  case tuple => show tupleOfD xs h ≠ _; unfold tupleOfD; split <;> (try split) <;> (intro z; cases z)
  case all => show allD xs h ≠ _; unfold allD; split <;> (try split) <;> (intro z; cases z)
  case any => show anyD xs h ≠ _; unfold anyD; split <;> (try split) <;> (intro z; cases z)
  case sum => show sumD xs h ≠ _; unfold sumD; split <;> (try split) <;> (intro z; cases z)
  all_goals exact fun z => nomatch z

/-! ### methods -/
def rM (S : Sta) (f : D → List D → Hh → Rs D) : V → List V → Hp → VK → Prop := fun x xs H Q => ∃ m h dx ds, HR S m H h ∧ VR S m H dx x ∧ VRs S m H ds xs ∧ Po S (RV S) (f dx ds h) m H (fun _ _ _ => False) Q
/-- a list is changed -/
theorem Po.wr {WE : XK} {Q : VK} {n : Nat} {a : Addr} {l : List D} {vs : List V} {d : D} {v : V} (r : HR S m H h) (ha : m[n]? = some a) (q : VRs S m H l vs) (hz : vs.length ≤ sizeLine) (b : VR S m H d v) (p : Po S (RV S) (.ok d (h.set n (.lst l))) m H WE Q) : Q v (upd H a (.lst vs)) := by
  have hm : a ∈ m := List.mem_of_getElem? ha
  have x := Ext.write (H := H) (u := .lst vs) hm
  exact p m _ _ x (r.write ha ⟨vs, upd_same, q.mono r x, hz⟩) (b.mono r x)
theorem bmD_nx (b : Bm) (x : D) (xs : List D) (h : Hh) (e : Exn) (h' : Hh) : bmD b x xs h ≠ .ex e h' := by
  cases b
  case append => show appendD x xs h ≠ _; unfold appendD; split <;> (try split) <;> (try split) <;> (intro z; cases z)
  case pop => show popD x xs h ≠ _; unfold popD; split <;> (try split) <;> (try split) <;> (try split) <;> (intro z; cases z)
  case insert => show insertD x xs h ≠ _; unfold insertD; split <;> (try split) <;> (try split) <;> (intro z; cases z)
  case extend => show extendD x xs h ≠ _; unfold extendD; split <;> (try split) <;> (try split) <;> (intro z; cases z)
  case split => show splitD x xs h ≠ _; unfold splitD; split <;> (try split) <;> (intro z; cases z)
  case join => show joinD x xs h ≠ _; unfold joinD; split <;> (try split) <;> (try split) <;> (intro z; cases z)
  all_goals exact fun z => nomatch z
theorem cm_append : MtR X "list.append" (rM S appendD) := by
  rintro pins s σ H x xs v us Q I rx rs ⟨m, h, dx, ds, r, a, q, p⟩
  unfold appendD at p
  split at p <;> try exact False.elim p
  obtain ⟨w, rfl, b⟩ := q.one_inv
  split at p
  · rename_i l hn
    obtain ⟨c, vs, rfl, hc, e2, e3, e4⟩ := a.lst_inv r hn
    split at p
    · rename_i hz
      have hz' : vs.length < sizeLine := by rw [← sl_line, ← e3.length]; exact hz
      exact mt_append pins s σ H _ _ v us Q I rx rs ⟨c, vs, w, rfl, rfl, e2, hz', p.wr r hc (e3.append (.cons b .nil)) (by rw [List.length_append]; exact hz') .non⟩
    · exact False.elim p
  · exact False.elim p
theorem cm_pop : MtR X "list.pop" (rM S popD) := by
  rintro pins s σ H x xs v us Q I rx rs ⟨m, h, dx, ds, r, a, q, p⟩
  unfold popD at p
  split at p <;> try exact False.elim p
  · cases q.nil_inv
    split at p
    · rename_i l hn
      obtain ⟨c, vs, rfl, hc, e2, e3, e4⟩ := a.lst_inv r hn
      split at p
      · rename_i y hy
        obtain ⟨w, e5, e6⟩ := e3.getLast hy
        exact mt_pop pins s σ H _ _ v us Q I rx rs ⟨c, vs, w, rfl, rfl, e2, e5, p.wr r hc e3.dropLast (by rw [List.length_dropLast]; omega) e6⟩
      · exact False.elim p
    · exact False.elim p
  · rename_i n i
    obtain ⟨w, rfl, b⟩ := q.one_inv
    cases b.int_inv
    split at p
    · rename_i l hn
      obtain ⟨c, vs, rfl, hc, e2, e3, e4⟩ := a.lst_inv r hn
      split at p
      · rename_i k hk
        split at p
        · rename_i y hy
          rw [e3.length] at hk
          obtain ⟨g1, g2, g3, g4⟩ := ixN_seq hk
          obtain ⟨w, e5, e6⟩ := e3.get hy
          have hlen : vs.length ≤ 16777216 := by rw [sizeLine_eq] at e4; exact e4
          exact mt_popAt pins s σ H _ _ v us Q I rx rs ⟨c, vs, i, k, w, rfl, rfl, e2, by omega, by omega, g1, e5, p.wr r hc (e3.eraseIdx k) (Nat.le_trans (len_erase _ _) e4) e6⟩
        · exact False.elim p
      · exact False.elim p
    · exact False.elim p
theorem cm_insert : MtR X "list.insert" (rM S insertD) := by
  rintro pins s σ H x xs v us Q I rx rs ⟨m, h, dx, ds, r, a, q, p⟩
  unfold insertD at p
  split at p <;> try exact False.elim p
  rename_i n i d
  obtain ⟨w, w', rfl, b, b'⟩ := q.two_inv
  cases b.int_inv
  split at p
  · rename_i l hn
    obtain ⟨c, vs, rfl, hc, e2, e3, e4⟩ := a.lst_inv r hn
    split at p
    · rename_i hz
      simp only [Bool.and_eq_true, decide_eq_true_eq] at hz
      obtain ⟨⟨h1, h2⟩, h3⟩ := hz
      have hz' : vs.length < sizeLine := by rw [← sl_line, ← e3.length]; exact h3
      refine mt_insert pins s σ H _ _ v us Q I rx rs ⟨c, vs, i, w', rfl, rfl, e2, hz', h1, by omega, p.wr r hc (((e3.take _).append (.cons b' .nil)).append (e3.drop _)) ?_ .non⟩
      rw [List.length_append, List.length_append, List.length_take, List.length_drop, List.length_singleton]
      omega
    · exact False.elim p
  · exact False.elim p
theorem cm_extend : MtR X "list.extend" (rM S extendD) := by
  rintro pins s σ H x xs v us Q I rx rs ⟨m, h, dx, ds, r, a, q, p⟩
  unfold extendD at p
  split at p <;> try exact False.elim p
  obtain ⟨w, rfl, b⟩ := q.one_inv
  split at p
  · rename_i l l2 hn hn2
    obtain ⟨c, vs, rfl, hc, e2, e3, e4⟩ := a.lst_inv r hn
    obtain ⟨c2, vs2, rfl, hc2, g2, g3, g4⟩ := b.lst_inv r hn2
    split at p
    · rename_i hz
      have hz' : vs.length + vs2.length ≤ sizeLine := by rw [← sl_line, ← e3.length, ← g3.length]; exact hz
      exact mt_extend pins s σ H _ _ v us Q I rx rs ⟨c, c2, vs, vs2, rfl, rfl, e2, g2, hz', p.wr r hc (e3.append g3) (by rw [List.length_append]; exact hz') .non⟩
    · exact False.elim p
  · exact False.elim p
theorem cm_split : MtR X "str.split" (rM S splitD) := by
  rintro pins s σ H x xs v us Q I rx rs ⟨m, h, dx, ds, r, a, q, p⟩
  unfold splitD at p
  split at p <;> try exact False.elim p
  obtain ⟨w, rfl, b⟩ := q.one_inv
  cases a.str_inv
  cases b.str_inv
  split at p
  · rename_i y z hz
    simp only [Bool.and_eq_true, decide_eq_true_eq, bne_iff_ne, ne_eq] at hz
    refine mt_split pins s σ H _ _ v us Q I rx rs ⟨y, z, rfl, rfl, by simpa using hz.1, by rw [← sl_line]; exact hz.2, fun pa ha => ?_⟩
    have hl : ((Txt.split y z).map V.str).length ≤ sizeLine := by
      rw [List.length_map]
      exact Nat.le_trans (PyProof.Rows.split_le y z) (by rw [← sl_line]; exact hz.2)
    exact p.newL r (strs_v _) hl pa ha
  · exact False.elim p
theorem cm_join (hK : X.K = S.K) : MtR X "str.join" (rM S joinD) := by
  rintro pins s σ H x xs v us Q I rx rs ⟨m, h, dx, ds, r, a, q, p⟩
  unfold joinD at p
  split at p <;> try exact False.elim p
  obtain ⟨w, rfl, b⟩ := q.one_inv
  cases a.str_inv
  split at p
  · rename_i ys e
    obtain ⟨l, e1, e2⟩ := Option.bind_eq_some_iff.mp e
    obtain ⟨c, vs, rfl, e3, e4⟩ := seq_inv r b e1
    have ev := dStrs_v e4 e2
    subst ev
    split at p
    · rename_i hz
      exact mt_join pins s σ H _ _ v us Q I rx rs ⟨_, c, ys, rfl, rfl, hK ▸ e3, hz, p.done r (.str _)⟩
    · exact False.elim p
  · exact False.elim p

/-! ### isinstance -/
def tyName : Ty → Option String
  | .int => some "int"
  | .bool => some "bool"
  | .str => some "str"
  | .tuple => some "tuple"
  | .list => some "list"
  | .cls _ => none
abbrev kinds : List String := ["NoneType", "bool", "int", "str", "list", "tuple", "dict"]
/-- what is known of the own classes -/
structure ClsF (S : Sta) : Prop where
  cl : ∀ c ∈ S.cs, Cls S.K (S.cA c)
  ha : ∀ c ∈ S.cs, PySem.W.findIn S.K (.ref (S.cA c)) "__class__" = some (some (.builtin "object.__class__"))
  hn : PySem.W.specialIn S.K (.builtin "object.__class__") "__get__" = some (some (.builtin "getset_descriptor.__get__"))
  htk : PySem.W.takesIn S.K (.builtin "object.__class__") = some true
  hm : ∀ c ∈ S.cs, PySem.W.mroIn S.K (S.cA c) (.type "object") = some true
  own : ∀ c ∈ S.cs, ∀ c' ∈ S.cs, PySem.W.kitOne S.K (.ref (S.cA c)) (.ref (S.cA c')) = some (c == c')
  ofT : ∀ c ∈ S.cs, ∀ T ∈ kinds, PySem.W.kitOne S.K (.type T) (.ref (S.cA c)) = some false
  toT : ∀ c ∈ S.cs, ∀ T ∈ kinds, PySem.W.kitOne S.K (.ref (S.cA c)) (.type T) = some false
/-- a class as a value -/
def tyV (S : Sta) : Ty → V
  | .int => .ty "int"
  | .bool => .ty "bool"
  | .str => .ty "str"
  | .tuple => .ty "tuple"
  | .list => .ty "list"
  | .cls c => .ref (S.cA c)
def tyU (S : Sta) : Ty → Value
  | .int => .type "int"
  | .bool => .type "bool"
  | .str => .type "str"
  | .tuple => .type "tuple"
  | .list => .type "list"
  | .cls c => .ref (S.cA c)
theorem tyV_cls (S : Sta) : ∀ t : Ty, ClsV (tyV S t) (tyU S t)
  | .int => .ty _
  | .bool => .ty _
  | .str => .ty _
  | .tuple => .ty _
  | .list => .ty _
  | .cls _ => .own _

theorem kit_tys {a b : String} {r : Bool} (h : kitB a b = some r) : PySem.W.kitOne S.K (.type a) (.type b) = some r := kit_ty h
theorem kb_non : kitB "NoneType" "int" = some false ∧ kitB "NoneType" "bool" = some false ∧ kitB "NoneType" "str" = some false ∧ kitB "NoneType" "tuple" = some false ∧ kitB "NoneType" "list" = some false := by decide +kernel
theorem kb_bl : kitB "bool" "int" = some true ∧ kitB "bool" "bool" = some true ∧ kitB "bool" "str" = some false ∧ kitB "bool" "tuple" = some false ∧ kitB "bool" "list" = some false := by decide +kernel
theorem kb_int : kitB "int" "int" = some true ∧ kitB "int" "bool" = some false ∧ kitB "int" "str" = some false ∧ kitB "int" "tuple" = some false ∧ kitB "int" "list" = some false := by decide +kernel
theorem kb_str : kitB "str" "int" = some false ∧ kitB "str" "bool" = some false ∧ kitB "str" "str" = some true ∧ kitB "str" "tuple" = some false ∧ kitB "str" "list" = some false := by decide +kernel
theorem kb_tup : kitB "tuple" "int" = some false ∧ kitB "tuple" "bool" = some false ∧ kitB "tuple" "str" = some false ∧ kitB "tuple" "tuple" = some true ∧ kitB "tuple" "list" = some false := by decide +kernel
theorem kb_lst : kitB "list" "int" = some false ∧ kitB "list" "bool" = some false ∧ kitB "list" "str" = some false ∧ kitB "list" "tuple" = some false ∧ kitB "list" "list" = some true := by decide +kernel
theorem kb_dct : kitB "dict" "int" = some false ∧ kitB "dict" "bool" = some false ∧ kitB "dict" "str" = some false ∧ kitB "dict" "tuple" = some false ∧ kitB "dict" "list" = some false := by decide +kernel
def tyIn (S : Sta) : Ty → Bool
  | .cls c => decide (c ∈ S.cs)
  | _ => true
/-- a value's type, and each class asked of it -/
theorem kind_of (hF : ClsF S) (r : HR S m H h) {d : D} {v : V} (a : VR S m H d v) (nf : ∀ f, d ≠ .fn f) (nr : ∀ n, d = .ref n → ∃ o, h[n]? = some o) : ∃ tv, TyX S.K H v tv ∧ ∀ t b, tyIn S t = true → tyD h d t = some b → PySem.W.kitOne S.K tv (tyU S t) = some b := by
  cases d with
  | non =>
    cases a.non_inv
    refine ⟨_, .base .non, fun t b ht e => ?_⟩
    cases t <;> (simp only [tyD, Option.some.injEq] at e; subst e)
    · exact kit_tys kb_non.1
    · exact kit_tys kb_non.2.1
    · exact kit_tys kb_non.2.2.1
    · exact kit_tys kb_non.2.2.2.1
    · exact kit_tys kb_non.2.2.2.2
    · exact hF.ofT _ (of_decide_eq_true ht) _ (by simp)
  | bl k =>
    cases a.bl_inv
    refine ⟨_, .base (.bl k), fun t b ht e => ?_⟩
    cases t <;> (simp only [tyD, Option.some.injEq] at e; subst e)
    · exact kit_tys kb_bl.1
    · exact kit_tys kb_bl.2.1
    · exact kit_tys kb_bl.2.2.1
    · exact kit_tys kb_bl.2.2.2.1
    · exact kit_tys kb_bl.2.2.2.2
    · exact hF.ofT _ (of_decide_eq_true ht) _ (by simp)
  | int k =>
    cases a.int_inv
    refine ⟨_, .base (.int k), fun t b ht e => ?_⟩
    cases t <;> (simp only [tyD, Option.some.injEq] at e; subst e)
    · exact kit_tys kb_int.1
    · exact kit_tys kb_int.2.1
    · exact kit_tys kb_int.2.2.1
    · exact kit_tys kb_int.2.2.2.1
    · exact kit_tys kb_int.2.2.2.2
    · exact hF.ofT _ (of_decide_eq_true ht) _ (by simp)
  | str k =>
    cases a.str_inv
    refine ⟨_, .base (.str k), fun t b ht e => ?_⟩
    cases t <;> (simp only [tyD, Option.some.injEq] at e; subst e)
    · exact kit_tys kb_str.1
    · exact kit_tys kb_str.2.1
    · exact kit_tys kb_str.2.2.1
    · exact kit_tys kb_str.2.2.2.1
    · exact kit_tys kb_str.2.2.2.2
    · exact hF.ofT _ (of_decide_eq_true ht) _ (by simp)
  | tup l =>
    obtain ⟨p, vs, rfl, e2, e3⟩ := a.tup_inv
    refine ⟨_, .base (.tup e2), fun t b ht e => ?_⟩
    cases t <;> (simp only [tyD, Option.some.injEq] at e; subst e)
    · exact kit_tys kb_tup.1
    · exact kit_tys kb_tup.2.1
    · exact kit_tys kb_tup.2.2.1
    · exact kit_tys kb_tup.2.2.2.1
    · exact kit_tys kb_tup.2.2.2.2
    · exact hF.ofT _ (of_decide_eq_true ht) _ (by simp)
  | frz l =>
    have z : ∃ p, v = .ref p ∧ TyX S.K H (.ref p) (.type "list") := by
      cases a with
      | frz e q =>
        refine ⟨_, rfl, ?_⟩
        rcases e with ⟨o, e⟩ | ⟨o, its, n, e1, e2, _⟩
        · exact .base (.frz e)
        · exact .kList e1 e2
    obtain ⟨p, rfl, T⟩ := z
    refine ⟨_, T, fun t b ht e => ?_⟩
    cases t <;> (simp only [tyD, Option.some.injEq] at e; subst e)
    · exact kit_tys kb_lst.1
    · exact kit_tys kb_lst.2.1
    · exact kit_tys kb_lst.2.2.1
    · exact kit_tys kb_lst.2.2.2.1
    · exact kit_tys kb_lst.2.2.2.2
    · exact hF.ofT _ (of_decide_eq_true ht) _ (by simp)
  | fn f => exact absurd rfl (nf f)
  | ref n =>
    obtain ⟨o, hn⟩ := nr n rfl
    cases o with
    | lst l =>
      obtain ⟨p, vs, rfl, _, e2, _⟩ := a.lst_inv r hn
      refine ⟨_, .base (.lst e2), fun t b ht e => ?_⟩
      cases t <;> (simp only [tyD, hn, Option.some.injEq] at e; subst e)
      · exact kit_tys kb_lst.1
      · exact kit_tys kb_lst.2.1
      · exact kit_tys kb_lst.2.2.1
      · exact kit_tys kb_lst.2.2.2.1
      · exact kit_tys kb_lst.2.2.2.2
      · exact hF.ofT _ (of_decide_eq_true ht) _ (by simp)
    | dct l =>
      obtain ⟨p, vs, rfl, _, e2, _⟩ := a.dct_inv r hn
      refine ⟨_, .base (.dK e2), fun t b ht e => ?_⟩
      cases t <;> (simp only [tyD, hn, Option.some.injEq] at e; subst e)
      · exact kit_tys kb_dct.1
      · exact kit_tys kb_dct.2.1
      · exact kit_tys kb_dct.2.2.1
      · exact kit_tys kb_dct.2.2.2.1
      · exact kit_tys kb_dct.2.2.2.2
      · exact hF.ofT _ (of_decide_eq_true ht) _ (by simp)
    | ins C l =>
      obtain ⟨p, dx, vs, rfl, _, e2, _, hc⟩ := a.ins_inv r hn
      refine ⟨_, .base (.ins e2 (hF.cl C hc) (hF.ha C hc) hF.hn hF.htk (hF.hm C hc)), fun t b ht e => ?_⟩
      cases t <;> (simp only [tyD, hn, Option.some.injEq] at e; subst e)
      · exact hF.toT _ hc _ (by simp)
      · exact hF.toT _ hc _ (by simp)
      · exact hF.toT _ hc _ (by simp)
      · exact hF.toT _ hc _ (by simp)
      · exact hF.toT _ hc _ (by simp)
      · refine (hF.own _ hc _ (of_decide_eq_true ht)).trans (congrArg some ?_)
        rename_i c
        by_cases q : C = c
        · subst q; simp
        · rw [beq_eq_false_iff_ne.mpr q]; exact (beq_eq_false_iff_ne.mpr (fun z => q (Ty.cls.inj z).symm)).symm
theorem tysD_any (hF : ClsF S) (r : HR S m H h) {d : D} {v : V} (a : VR S m H d v) {ts : List Ty} {b : Bool} (ht : ts.all (tyIn S) = true) (hne : ts ≠ []) (e : tysD h d ts = some b) :
    ∃ tv, TyX S.K H v tv ∧ PySem.W.kitAny S.K tv (ts.map (tyU S)) = some b := by
  have nf : ∀ f, d ≠ .fn f := by
    rintro f rfl
    cases ts with
    | nil => exact hne rfl
    | cons t ts =>
      unfold tysD at e
      simp [tyD] at e
  have nr : ∀ n, d = .ref n → ∃ o, h[n]? = some o := by
    rintro n rfl
    cases ts with
    | nil => exact absurd rfl hne
    | cons t ts =>
      cases hn : h[n]? with
      | some o => exact ⟨o, rfl⟩
      | none =>
        unfold tysD at e
        simp [tyD, hn] at e
  obtain ⟨tv, T, f⟩ := kind_of hF r a nf nr
  refine ⟨tv, T, ?_⟩
  clear hne
  induction ts with
  | nil =>
    cases e
    exact kitAny_nil
  | cons t ts ih =>
    rw [List.all_cons, Bool.and_eq_true] at ht
    unfold tysD at e
    rw [List.map_cons]
    cases et : tyD h d t with
    | none => rw [et] at e; cases e
    | some k =>
      rw [et] at e
      refine kitAny_cons (f t k ht.1 et) (fun hk => ?_) fun hk => ?_
      · subst hk
        exact ih ht.2 e
      · subst hk
        exact (Option.some.inj e).symm
end
end MP

set_option Elab.async false
set_option linter.all false
set_option maxRecDepth 100000
set_option autoImplicit false
set_option maxHeartbeats 1000000
/-! Mp5: what a loop walks; for, while, list comprehensions, by our evaluator. -/
namespace MP
open PySem PySem.Spec L2
section
variable {X : Cx} {S : Sta}

/-- our iterator and the model's -/
def RIt (S : Sta) (m : List Addr) (H : Hp) (I : Itr) (J : L2.It) : Prop :=
  ∀ (m2 : List Addr) (H2 : Hp) (h2 : Hh) (i : Nat), Ext m H m2 H2 → HR S m2 H2 h2 →
    (∀ x, I.nxt h2 i = some (some x) → J.go i H2 ∧ ∀ v H3, J.yld i H2 v H3 → Ext m2 H2 m2 H3 ∧ HR S m2 H3 h2 ∧ VR S m2 H3 x v) ∧
    (I.nxt h2 i = some none → J.stop i H2)
def tI (S : Sta) (f : PEnv → Hh → Rs Itr) (W : WX) : TI := fun σ H R => ∃ m ρ h, HR S m H h ∧ ER S m H ρ σ ∧ Po S (RIt S) (f ρ h) m H (fun c d H' => W c d σ H') R
theorem tI_first {σ : St} {H : Hp} {f : PEnv → Hh → Rs D} {W : WX} {k : PEnv → D → Hh → Rs Itr} {R : L2.It → Hp → Prop} {m : List Addr} {ρ : PEnv} {h : Hh} (r : HR S m H h) (q : ER S m H ρ σ)
    (x : Po S (RIt S) ((f ρ h).bind (k ρ)) m H (fun c d H' => W c d σ H') R) {Q' : V → Hp → Prop}
    (y : ∀ v H1 m1 h1 d, HR S m1 H1 h1 → ER S m1 H1 ρ σ → Ext m H m1 H1 → VR S m1 H1 d v → Po S (RIt S) (k ρ d h1) m1 H1 (fun c d H' => W c d σ H') R → Q' v H1) : tE S f W σ H Q' := tE_first r q x y

/-- a walk over one value: a list, a tuple, a text -/
def iSeqU (K : PySem.W.Frag) (te : TE) : TI := fun σ H R => te σ H fun x H1 => (∃ a, x = .ref a ∧ (∃ xs, SqL K H1 a xs) ∧ R (Itl K a) H1) ∨ (∃ a, x = .ref a ∧ (∃ xs, SqT K H1 a xs) ∧ R (Itt K a) H1) ∨ ∃ z, x = .str z ∧ R (Its z) H1
theorem pi_seqU {tg e : Expr} {te : TE} (he : PE X e te) : PI X tg e (iSeqU X.K te) := by
  refine ⟨fun pins s σ H R I h => ?_⟩
  refine thn (he.run pins s σ H _ I h) fun v s1 ⟨x, H1, I1, r1, q1⟩ => ?_
  rcases q1 with ⟨a, e, ⟨xs, hq⟩, q⟩ | ⟨a, e, ⟨xs, hq⟩, q⟩ | ⟨z, e, q⟩
  · subst e
    cases r1
    obtain ⟨its, rv, p, hz⟩ := I1.list hq
    refine wpAny_pyIter_list p.isList ?_
    refine ⟨s1.heap.objs.size, [s1.heap.objs.size], _, _, H1, rfl, I1.kept (t' := s1.toks) fun b o e => Heap.get?_push_of_some _ e, turn_list a _, ⟨_, Heap.get?_push_size _ rfl, rfl, rfl⟩, fun b hb => ?_, q⟩
    have e : b = s1.heap.objs.size := by simpa using hb
    subst e
    exact I1.fpOk (Nat.le_refl _) (I1.hok.fresh (Nat.le_refl _))
  · subst e
    cases r1
    obtain ⟨its, rv, p, hz⟩ := I1.tuple hq
    refine wpAny_pyIter_tuple (show s1.heap.IsTuple a its.toArray from p) ?_
    refine ⟨s1.heap.objs.size, [s1.heap.objs.size], _, _, H1, rfl, I1.kept (t' := s1.toks) fun b o e => Heap.get?_push_of_some _ e, turn_tuple a _, ⟨_, Heap.get?_push_size _ rfl, rfl, rfl⟩, fun b hb => ?_, q⟩
    have e : b = s1.heap.objs.size := by simpa using hb
    subst e
    exact I1.fpOk (Nat.le_refl _) (I1.hok.fresh (Nat.le_refl _))
  · subst e
    obtain ⟨t, rfl⟩ := r1
    cases ha : z.cps.all (· < 128)
    · exact wpAny_pyIter_wide ha (pi_one (tk := s1.toks) I1 _ (turn_str _ z t "str_iterator" (.inr rfl)) ⟨_, Heap.get?_push_size _ rfl, rfl, rfl⟩ q)
    · exact wpAny_pyIter_ascii ha (pi_one (tk := s1.toks) I1 _ (turn_str _ z t "str_ascii_iterator" (.inl rfl)) ⟨_, Heap.get?_push_size _ rfl, rfl, rfl⟩ q)
/-- our walk over a list, a tuple that stays what it is -/
theorem rit_same {m : List Addr} {H : Hp} {h : Hh} {l : List D} {vs : List V} {n : Nat} {J : L2.It} (r : HR S m H h) (q : VRs S m H l vs)
    (hg : ∀ i H2 m2, Ext m H m2 H2 → i < vs.length → J.go i H2) (hy : ∀ i H2 m2 v H3, Ext m H m2 H2 → J.yld i H2 v H3 → H3 = H2 ∧ vs[i]? = some v) (hs : ∀ i H2 m2, Ext m H m2 H2 → vs.length ≤ i → J.stop i H2) :
    RIt S m H ⟨n, fun _ i => some l[i]?⟩ J := by
  intro m2 H2 h2 i x r2
  refine ⟨fun d e => ?_, fun e => ?_⟩
  · have e' : l[i]? = some d := Option.some.inj e
    obtain ⟨w, e1, e2⟩ := q.get e'
    refine ⟨hg i H2 m2 x (List.getElem?_eq_some_iff.mp e1).1, fun v H3 y => ?_⟩
    obtain ⟨e3, e4⟩ := hy i H2 m2 v H3 x y
    subst e3
    rw [e1] at e4
    cases e4
    exact ⟨Ext.refl _ _, r2, e2.mono r x⟩
  · have e' : l[i]? = none := Option.some.inj e
    refine hs i H2 m2 x ?_
    rw [← q.length]
    exact List.getElem?_eq_none_iff.mp e'
theorem SqT.ext {m : List Addr} {H : Hp} {h : Hh} (r : HR S m H h) {m2 : List Addr} {H2 : Hp} (x : Ext m H m2 H2) {a : Addr} {vs : List V} (e : H a = some (.tup vs)) : SqT S.K H2 a vs := SqT.of (x.keep r e rfl)
theorem SqL.ext {m : List Addr} {H : Hp} {h : Hh} (r : HR S m H h) {l : List D} {v : V} (q : VR S m H (.frz l) v) : ∃ a vs, v = .ref a ∧ VRs S m H l vs ∧ SqL S.K H a vs ∧ ∀ {m2 : List Addr} {H2 : Hp}, Ext m H m2 H2 → SqL S.K H2 a vs := by
  cases q with
  | frz e q =>
    refine ⟨_, _, rfl, q, e.elim (fun e => .inl (.inr e)) .inr, fun {m2 H2} x => ?_⟩
    rcases e with ⟨o, e⟩ | e
    · exact .inl (.inr ⟨o, x.keep r e rfl⟩)
    · exact .inr e
theorem me_seq {tg e : Expr} {f : PEnv → Hh → Rs D} {W : WX} (hK : X.K = S.K) (he : PE X e (tE S f W)) : PI X tg e (tI S (fun ρ h => (f ρ h).bind itSeq) W) := by
  refine (pi_seqU he).imp fun σ H R h => ?_
  obtain ⟨m, ρ, hh, r, q, x⟩ := h
  refine tE_first (k := fun _ => itSeq) r q x fun v H1 m1 h1 d r1 q1 x1 e1 p => ?_
  unfold itSeq at p
  split at p <;> try exact False.elim p
  · rename_i l
    obtain ⟨a, vs, rfl, e2, e3, e4⟩ := SqL.ext r1 e1
    refine .inl ⟨a, rfl, ⟨vs, hK ▸ e3⟩, p.done r1 (rit_same r1 e2 (fun i H2 m2 y hi => ⟨vs, vs[i], hK ▸ e4 y, by simp [hi]⟩) (fun i H2 m2 w H3 y z => ⟨z.1, z.2 vs (hK ▸ e4 y)⟩) fun i H2 m2 y hi => ⟨vs, hK ▸ e4 y, hi⟩)⟩
  · rename_i l
    obtain ⟨a, vs, rfl, e2, e3⟩ := e1.tup_inv
    refine .inr (.inl ⟨a, rfl, ⟨vs, SqT.of e2⟩, p.done r1 (rit_same r1 e3 (fun i H2 m2 y hi => ⟨vs, vs[i], hK ▸ SqT.ext r1 y e2, by simp [hi]⟩) (fun i H2 m2 w H3 y z => ⟨z.1, z.2 vs (hK ▸ SqT.ext r1 y e2)⟩) fun i H2 m2 y hi => ⟨vs, hK ▸ SqT.ext r1 y e2, hi⟩)⟩)
  · rename_i z
    cases e1.str_inv
    refine .inr (.inr ⟨z, rfl, p.done r1 fun m2 H2 h2 i y r2 => ⟨fun d e => ?_, fun e => ?_⟩⟩)
    · have e' : (z.cps[i]?).map (fun c => D.str ⟨#[c]⟩) = some d := Option.some.inj e
      obtain ⟨c, e5, e6⟩ := Option.map_eq_some_iff.mp e'
      subst e6
      refine ⟨(Array.getElem?_eq_some_iff.mp e5).1, fun v H3 ⟨e7, c', e8, e9⟩ => ?_⟩
      subst e7
      rw [e5] at e8
      cases e8
      subst e9
      exact ⟨Ext.refl _ _, r2, .str _⟩
    · have e' : (z.cps[i]?).map (fun c => D.str ⟨#[c]⟩) = none := Option.some.inj e
      exact Array.getElem?_eq_none_iff.mp (Option.map_eq_none_iff.mp e')
  · split at p
    · rename_i n _ l hn
      obtain ⟨a, vs, rfl, ha, e2, e3, _⟩ := e1.lst_inv r1 hn
      refine .inl ⟨a, rfl, ⟨vs, SqL.of e2⟩, p.done r1 fun m2 H2 h2 i y r2 => ?_⟩
      have ha2 := y.get ha
      dsimp only
      unfold lstNx
      cases hn2 : h2[n]? with
      | none => exact ⟨fun d e => by simp at e, fun e => by simp at e⟩
      | some o =>
        cases o with
        | dct _ => exact ⟨fun d e => by simp at e, fun e => by simp at e⟩
        | ins _ _ => exact ⟨fun d e => by simp at e, fun e => by simp at e⟩
        | lst l2 =>
          obtain ⟨b, eb, ws, g1, g2, g3⟩ := r2.ob n _ hn2
          rw [ha2] at eb
          cases eb
          refine ⟨fun d e => ?_, fun e => ?_⟩
          · have e' : l2[i]? = some d := Option.some.inj e
            obtain ⟨w, e5, e6⟩ := g2.get e'
            refine ⟨⟨ws, w, SqL.of g1, e5⟩, fun v H3 ⟨e7, e8⟩ => ?_⟩
            subst e7
            have e9 := e8 ws (SqL.of g1)
            rw [e5] at e9
            cases e9
            exact ⟨Ext.refl _ _, r2, e6⟩
          · have e' : l2[i]? = none := Option.some.inj e
            exact ⟨ws, SqL.of g1, by rw [← g2.length]; exact List.getElem?_eq_none_iff.mp e'⟩
    · exact False.elim p
theorem rit_rng {m : List Addr} {H : Hp} {lo : Int} {n : Nat} : RIt S m H ⟨n, fun _ i => some (if i < n then some (.int (lo + (i : Int))) else none)⟩ (L2.Itr lo n) := by
  intro m2 H2 h2 i x r2
  dsimp only
  refine ⟨fun d e => ?_, fun e => ?_⟩
  · by_cases hi : i < n
    · rw [if_pos hi] at e
      cases e
      refine ⟨hi, fun v H3 ⟨e1, e2⟩ => ?_⟩
      subst e1 e2
      exact ⟨Ext.refl _ _, r2, .int _⟩
    · rw [if_neg hi] at e
      cases e
  · by_cases hi : i < n
    · rw [if_pos hi] at e
      cases e
    · exact Nat.le_of_not_lt hi
theorem me_rng1 {tg a : Expr} {f : PEnv → Hh → Rs D} {W : WX} {p pos : Pos} (hg : Gl X "range") (hm : X.mg "range" = none) (ha : PE X a (tE S f W)) (hs : starEach [a] X.env = [(false, eval a X.env)]) :
    PI X tg (.Call (.Name "range" p) [a] [] pos) (tI S (fun ρ h => (f ρ h).bind rngK1) W) := by
  refine (pi_range1 hg hm (pa_cons ha pa_nil hs) hs).imp fun σ H R h => ?_
  obtain ⟨m, ρ, hh, r, q, x⟩ := h
  refine tE_first (k := fun _ => rngK1) r q x fun v H1 m1 h1 d r1 q1 x1 e1 p => ?_
  unfold rngK1 at p
  split at p <;> try exact False.elim p
  rename_i j
  cases e1.int_inv
  unfold itRng at p
  split at p
  · rename_i hz
    simp only [Bool.and_eq_true, decide_eq_true_eq] at hz
    refine ⟨j, rfl, by omega, by omega, ?_⟩
    have e : (j - 0).toNat = j.toNat := by rw [Int.sub_zero]
    rw [e] at p
    exact p.done r1 rit_rng
  · exact False.elim p
theorem me_rng2 {tg a b : Expr} {f g : PEnv → Hh → Rs D} {W : WX} {p pos : Pos} (hg : Gl X "range") (hm : X.mg "range" = none) (ha : PE X a (tE S f W)) (hb : PE X b (tE S g W)) (hs : starEach [a, b] X.env = [(false, eval a X.env), (false, eval b X.env)]) (hs2 : starEach [b] X.env = [(false, eval b X.env)]) :
    PI X tg (.Call (.Name "range" p) [a, b] [] pos) (tI S (fun ρ h => (f ρ h).bind fun x h1 => (g ρ h1).bind (rngK2 x)) W) := by
  refine (pi_range2 hg hm (pa_cons ha (pa_cons hb pa_nil hs2) (by rw [hs, hs2])) hs hs2).imp fun σ H R h => ?_
  obtain ⟨m, ρ, hh, r, q, x⟩ := h
  refine tE_first (k := fun ρ x h1 => (g ρ h1).bind (rngK2 x)) r q x fun v H1 m1 h1 d r1 q1 x1 e1 p => ?_
  refine tE_first (k := fun ρ => rngK2 d) r1 q1 p fun v2 H2 m2 h2 d2 r2 q2 x2 e2 p2 => ?_
  clear p
  have p := p2
  clear p2
  unfold rngK2 at p
  split at p <;> try exact False.elim p
  rename_i i j
  cases e1.int_inv
  cases e2.int_inv
  unfold itRng at p
  split at p
  · rename_i hz
    simp only [Bool.and_eq_true, decide_eq_true_eq] at hz
    exact ⟨i, j, rfl, ⟨by omega, by omega, by omega, by omega⟩, p.done r2 rit_rng⟩
  · exact False.elim p
end
end MP

set_option Elab.async false
set_option linter.all false
set_option maxRecDepth 100000
set_option autoImplicit false
set_option maxHeartbeats 1000000
/-! Mp6: each construct of an expression, its rule and our evaluator. -/
namespace MP
open PySem PySem.Spec L2
section
variable {X : Cx} {S : Sta} {a b c : Expr} {f g k : PEnv → Hh → Rs D} {f' g' : PEnv → Hh → Rs Bool} {W : WX} {pos : Pos}

/-- a constant -/
theorem me_con {e : Expr} {v : V} {d : D} (h : PE X e (tC v)) (q : ∀ m H, VR S m H d v) : PE X e (tE S (fun _ h => .ok d h) W) :=
  h.imp fun σ H Q ⟨m, ρ, hh, r, _, p⟩ => Po.done p r (q m H)
theorem me_slot {i : Nat} {x : Str} (hN : X.N[i]? = some x) (hv : Vis X.env.scope x) (hd : (x == ("__debug__" : Str)) = false) (hcd : (x == ("__classdict__" : Str)) = false) :
    PE X (.Name x pos) (tE S (slotK i) W) :=
  (pe_var hN hv hd hcd).imp fun σ H Q ⟨m, ρ, hh, r, q, p⟩ => by
    unfold slotK at p
    cases e : ρ[i]? with
    | none => rw [e] at p; exact False.elim p
    | some o =>
      cases o with
      | none => rw [e] at p; exact False.elim p
      | some d =>
        rw [e] at p
        obtain ⟨v, e1, e2⟩ := q.at_ i d e
        exact ⟨v, e1, Po.done p r e2⟩
theorem me_neg (ha : PE X a (tE S f W)) : PE X (.UnaryOp .USub a pos) (tE S (fun ρ h => (f ρ h).bind negK) W) :=
  (pe_un un_neg ha).imp fun σ H Q ⟨m, ρ, hh, r, q, p⟩ => by
    refine tE_first (k := fun _ => negK) r q p fun v H1 m1 h1 d r1 q1 x1 e1 p => ?_
    unfold negK at p
    split at p <;> try exact False.elim p
    cases e1.int_inv
    exact ⟨_, rfl, p.done r1 (.int _)⟩
/-! ### tests -/
theorem tru_v {m : List Addr} {H : Hp} {h : Hh} {d : D} {v : V} {k : Bool} (hK : X.K = S.K) (r : HR S m H h) (q : VR S m H d v) (e : tru h d = some k) : TruV X.K v H k := by
  cases d with
  | non => cases q.non_inv; simp only [tru, Option.some.injEq] at e; exact e.symm
  | bl b => cases q.bl_inv; simp only [tru, Option.some.injEq] at e; subst e; rfl
  | int i => cases q.int_inv; simp only [tru, Option.some.injEq] at e; subst e; rfl
  | str s =>
    cases q.str_inv
    simp only [tru] at e
    split at e
    · rename_i hz
      cases e
      exact ⟨by rw [← sl_line]; exact hz, rfl⟩
    · cases e
  | tup l =>
    obtain ⟨a, vs, rfl, e1, e2⟩ := q.tup_inv
    simp only [tru, Option.some.injEq] at e
    subst e
    refine .inr (.inl ⟨vs, SqT.of e1, ?_⟩)
    cases e2 <;> rfl
  | frz l =>
    obtain ⟨a, vs, rfl, e1, e2⟩ := q.frz_inv
    simp only [tru, Option.some.injEq] at e
    subst e
    refine .inl ⟨vs, hK ▸ e1, ?_⟩
    cases e2 <;> rfl
  | fn _ => simp [tru] at e
  | ref n =>
    cases hn : h[n]? with
    | none => simp [tru, hn] at e
    | some o =>
      cases o with
      | lst l =>
        obtain ⟨a, vs, rfl, _, e1, e2, _⟩ := q.lst_inv r hn
        simp only [tru, hn, Option.some.injEq] at e
        subst e
        refine .inl ⟨vs, SqL.of e1, ?_⟩
        cases e2 <;> rfl
      | dct _ => simp [tru, hn] at e
      | ins _ _ => simp [tru, hn] at e
/-- a value as a test -/
theorem mt_truth (hK : X.K = S.K) (ha : PE X a (tE S f W)) (he : ∀ whole, isTrue a X.env whole = (do let v ← whole; standAt a.pos; holding [v] (truthy v))) :
    PT X a (tTt S (fun ρ h => (f ρ h).bind truK) W) := by
  refine (pt_truth ha he).imp fun σ H Q ⟨m, ρ, hh, r, q, p⟩ => ?_
  refine tE_first (k := fun _ => truK) r q p fun v H1 m1 h1 d r1 q1 x1 e1 p => ?_
  unfold truK at p
  cases e : tru h1 d with
  | none => rw [e] at p; exact False.elim p
  | some k =>
    rw [e] at p
    exact ⟨k, tru_v hK r1 e1 e, Po.done (R := RB) p r1 rfl⟩

theorem mt_not (ha : PT X a (tTt S f' W)) : PT X (.UnaryOp .Not a pos) (tTt S (fun ρ h => (f' ρ h).bind fun b h1 => .ok (!b) h1) W) := by
  refine (pt_not ha).imp fun σ H Q ⟨m, ρ, hh, r, q, p⟩ => ?_
  exact tT_first (k := fun _ b h1 => Rs.ok (!b) h1) r q p fun v H1 m1 h1 r1 q1 x1 p => Po.done (R := RB) p r1 rfl

theorem me_not (ha : PT X a (tTt S f' W)) (hn : PE X (.UnaryOp .Not a pos) (fun σ H Q => tTt S f' W σ H fun b H1 => Q (.bl (!b)) H1)) : PE X (.UnaryOp .Not a pos) (tE S (fun ρ h => (f' ρ h).bind fun b h1 => .ok (.bl (!b)) h1) W) :=
  hn.imp fun σ H Q ⟨m, ρ, hh, r, q, p⟩ => tT_first (k := fun _ b h1 => Rs.ok (D.bl (!b)) h1) r q p fun v H1 m1 h1 r1 q1 x1 p => Po.done p r1 (.bl _)
/-- an expression whose evaluation is a test -/
theorem mt_bool {e : Expr} (he : PE X e (tE S (fun ρ h => (f' ρ h).bind fun b h1 => .ok (.bl b) h1) W)) (ht : ∀ t, PE X e t → PT X e (tB t)) : PT X e (tTt S f' W) :=
  (ht _ he).imp fun σ H Q ⟨m, ρ, hh, r, q, p⟩ => ⟨m, ρ, hh, r, q, by
    dsimp only at p ⊢
    cases e : f' ρ hh with
    | ok b h1 =>
      rw [e] at p
      intro m1 H1 v x1 r1 v1
      cases v1.bl_inv
      exact ⟨b, rfl, p m1 H1 b x1 r1 rfl⟩
    | ex e2 h1 => rw [e] at p; exact p
    | st => rw [e] at p; exact p⟩
theorem mw_and1 (ha : PT X a (tTt S f' W)) : PW X (.BoolOp .And [a] pos) (tTt S f' W) := pw_and1 ha
theorem mw_or1 (ha : PT X a (tTt S f' W)) : PW X (.BoolOp .Or [a] pos) (tTt S f' W) := pw_or1 ha
theorem _root_.L2.PW.imp {X : Cx} {e : Expr} {t t' : TT} (p : PW X e t) (h : ∀ σ H Q, t' σ H Q → t σ H Q) : PW X e t' := ⟨fun w pins s σ H Q I x => p.run w pins s σ H Q I (h _ _ _ x)⟩
theorem mw_and {rest : List Expr} (ha : PT X a (tTt S f' W)) (hb : PW X (.BoolOp .And (b :: rest) pos) (tTt S g' W)) :
    PW X (.BoolOp .And (a :: b :: rest) pos) (tTt S (fun ρ h => (f' ρ h).bind fun k h1 => if k then g' ρ h1 else .ok false h1) W) := by
  refine (pw_and ha hb).imp fun σ H Q ⟨m, ρ, hh, r, q, p⟩ => ?_
  refine tT_first (k := fun ρ k h1 => if k then g' ρ h1 else .ok false h1) r q p fun v H1 m1 h1 r1 q1 x1 p => ?_
  cases v with
  | true => exact ⟨m1, ρ, h1, r1, q1, p⟩
  | false => exact Po.done (R := RB) p r1 rfl
theorem mw_or {rest : List Expr} (ha : PT X a (tTt S f' W)) (hb : PW X (.BoolOp .Or (b :: rest) pos) (tTt S g' W)) :
    PW X (.BoolOp .Or (a :: b :: rest) pos) (tTt S (fun ρ h => (f' ρ h).bind fun k h1 => if k then .ok true h1 else g' ρ h1) W) := by
  refine (pw_or ha hb).imp fun σ H Q ⟨m, ρ, hh, r, q, p⟩ => ?_
  refine tT_first (k := fun ρ k h1 => if k then .ok true h1 else g' ρ h1) r q p fun v H1 m1 h1 r1 q1 x1 p => ?_
  cases v with
  | true => exact Po.done (R := RB) p r1 rfl
  | false => exact ⟨m1, ρ, h1, r1, q1, p⟩
/-- a and b, as values: a True or False -/
theorem me_and {rest : List Expr} (ha : PE X a (tE S f W)) (hb : PE X (.BoolOp .And (b :: rest) pos) (tE S g W)) :
    PE X (.BoolOp .And (a :: b :: rest) pos) (tE S (fun ρ h => (f ρ h).bind (andK (g ρ))) W) := by
  refine (pe_and ha hb).imp fun σ H Q ⟨m, ρ, hh, r, q, p⟩ => ?_
  refine tE_first (k := fun ρ => andK (g ρ)) r q p fun v H1 m1 h1 d r1 q1 x1 e1 p => ?_
  unfold andK at p
  split at p <;> try exact False.elim p
  · cases e1.bl_inv
    exact ⟨true, rfl, m1, ρ, h1, r1, q1, p⟩
  · cases e1.bl_inv
    exact ⟨false, rfl, p.done r1 (.bl _)⟩
theorem me_or {rest : List Expr} (ha : PE X a (tE S f W)) (hb : PE X (.BoolOp .Or (b :: rest) pos) (tE S g W)) :
    PE X (.BoolOp .Or (a :: b :: rest) pos) (tE S (fun ρ h => (f ρ h).bind (orK (g ρ))) W) := by
  refine (pe_or ha hb).imp fun σ H Q ⟨m, ρ, hh, r, q, p⟩ => ?_
  refine tE_first (k := fun ρ => orK (g ρ)) r q p fun v H1 m1 h1 d r1 q1 x1 e1 p => ?_
  unfold orK at p
  split at p <;> try exact False.elim p
  · cases e1.bl_inv
    exact ⟨true, rfl, p.done r1 (.bl _)⟩
  · cases e1.bl_inv
    exact ⟨false, rfl, m1, ρ, h1, r1, q1, p⟩
theorem me_isN {j : Nat} {pos' : Pos} (ha : PE X a (tE S f W)) : PE X (.Compare a [.Is] [.Constant .none j pos'] pos) (tE S (fun ρ h => (f ρ h).bind isNK) W) := by
  refine (pe_cmp (pc_isN ha)).imp fun σ H Q ⟨m, ρ, hh, r, q, p⟩ => ?_
  refine tE_first (k := fun _ => isNK) r q p fun v H1 m1 h1 d r1 q1 x1 e1 p => ?_
  have e : decide (v = .non) = isNon d := by cases e1 <;> simp [isNon]
  rw [e]
  exact Po.done p r1 (.bl _)
theorem me_notN {j : Nat} {pos' : Pos} (ha : PE X a (tE S f W)) : PE X (.Compare a [.IsNot] [.Constant .none j pos'] pos) (tE S (fun ρ h => (f ρ h).bind notNK) W) := by
  refine (pe_cmp (pc_notN ha)).imp fun σ H Q ⟨m, ρ, hh, r, q, p⟩ => ?_
  refine tE_first (k := fun _ => notNK) r q p fun v H1 m1 h1 d r1 q1 x1 e1 p => ?_
  have e : decide (v = .non) = isNon d := by cases e1 <;> simp [isNon]
  rw [e]
  exact Po.done p r1 (.bl _)
theorem me_ite (hc : PT X c (tTt S f' W)) (ha : PE X a (tE S f W)) (hb : PE X b (tE S g W)) : PE X (.IfExp c a b pos) (tE S (fun ρ h => (f' ρ h).bind fun k h1 => if k then f ρ h1 else g ρ h1) W) := by
  refine (pe_ifExp hc ha hb).imp fun σ H Q ⟨m, ρ, hh, r, q, p⟩ => ?_
  refine tT_first (k := fun ρ k h1 => if k then f ρ h1 else g ρ h1) r q p fun v H1 m1 h1 r1 q1 x1 p => ?_
  cases v with
  | true => exact ⟨m1, ρ, h1, r1, q1, p⟩
  | false => exact ⟨m1, ρ, h1, r1, q1, p⟩
theorem me_chain {op op' : CmpOp} {o o' : D → D → Hh → Rs D} (ho : OpR X (compareOp op) (rO S o)) (ho' : OpR X (compareOp op') (rO S o')) (n : ∀ x y h e h', o x y h ≠ .ex e h') (n' : ∀ x y h e h', o' x y h ≠ .ex e h')
    (ha : PE X a (tE S f W)) (hb : PE X b (tE S g W)) (hc : PE X c (tE S k W)) (hm' : behindInMarks op' c = false) :
    PE X (.Compare a [op, op'] [b, c] pos) (tE S (fun ρ h => (f ρ h).bind fun x h1 => (g ρ h1).bind fun y h2 => (o x y h2).bind (andK fun h3 => (k ρ h3).bind fun u h4 => o' y u h4)) W) := by
  refine (pe_chain ho ho' ha hb hc (show lastMarks [op, op'] [b, c] = false from hm')).imp fun σ H Q ⟨m, ρ, hh, r, q, p⟩ => ?_
  refine tE_first (k := fun ρ x h1 => (g ρ h1).bind fun y h2 => (o x y h2).bind (andK fun h3 => (k ρ h3).bind fun u h4 => o' y u h4)) r q p fun v1 H1 m1 h1 d1 r1 q1 x1 e1 p1 => ?_
  refine tE_first (k := fun ρ y h2 => (o d1 y h2).bind (andK fun h3 => (k ρ h3).bind fun u h4 => o' y u h4)) r1 q1 p1 fun v2 H2 m2 h2 d2 r2 q2 x2 e2 p2 => ?_
  have p3 := Po.bind (R := RV S) p2
  refine ⟨m2, h2, d1, d2, r2, e1.mono r1 x2, e2, (p3.noex (WE' := fun _ _ _ => False) (fun e h' => n _ _ _ e h')).imp (fun v3 H3 ⟨m3, h3, d3, x3, r3, e3, p4⟩ => ?_) fun _ _ _ z => z⟩
  unfold andK at p4
  split at p4 <;> try exact False.elim p4
  · cases e3.bl_inv
    refine ⟨true, rfl, iteT ?_⟩
    refine tE_first (k := fun ρ u h4 => o' d2 u h4) r3 (q2.mono r2 x3) p4 fun v4 H4 m4 h4 d4 r4 q4 x4 e4 p5 => ?_
    exact ⟨m4, h4, d2, d4, r4, (e2.mono r2 x3).mono r3 x4, e4, p5.noex fun e h' => n' _ _ _ e h'⟩
  · cases e3.bl_inv
    exact ⟨false, rfl, iteF (p4.done r3 (.bl _))⟩
/-! ### arguments, displays -/
theorem ma_nil : PA X [] (tAa S (fun _ h => .ok [] h) W) := pa_nil.imp fun σ H Q ⟨m, ρ, hh, r, q, p⟩ => Po.done p r .nil
theorem ma_cons {e : Expr} {es : List Expr} {fs : PEnv → Hh → Rs (List D)} (he : PE X e (tE S f W)) (hr : PA X es (tAa S fs W)) (hs : starEach (e :: es) X.env = (false, eval e X.env) :: starEach es X.env) :
    PA X (e :: es) (tAa S (fun ρ h => (f ρ h).bind fun x h1 => (fs ρ h1).bind fun xs h2 => .ok (x :: xs) h2) W) := by
  refine (pa_cons he hr hs).imp fun σ H Q ⟨m, ρ, hh, r, q, p⟩ => ?_
  refine tE_first (k := fun ρ x h1 => (fs ρ h1).bind fun xs h2 => .ok (x :: xs) h2) r q p fun v1 H1 m1 h1 d1 r1 q1 x1 e1 p1 => ?_
  refine tA_first (k := fun ρ xs h2 => .ok (d1 :: xs) h2) r1 q1 p1 fun vs H2 m2 h2 ds r2 q2 x2 e2 p2 => ?_
  exact Po.done p2 r2 (.cons (e1.mono r1 x2) e2)
theorem me_tup {es : List Expr} {fs : PEnv → Hh → Rs (List D)} {x1 : Nat} (h : PA X es (tAa S fs W)) : PE X (.Tuple es x1 pos) (tE S (fun ρ h => (fs ρ h).bind tupK) W) := by
  refine (pe_tup h).imp fun σ H Q ⟨m, ρ, hh, r, q, p⟩ => ?_
  refine tA_first (k := fun ρ => tupK) r q p fun vs H1 m1 h1 ds r1 q1 x1 e1 p1 => ?_
  unfold tupK at p1
  split at p1
  · rename_i hz
    exact ⟨by rw [← sl_line, ← e1.length]; exact hz, p1.newT r1 e1⟩
  · exact False.elim p1
theorem me_lst {es : List Expr} {fs : PEnv → Hh → Rs (List D)} (h : PA X es (tAa S fs W)) : PE X (.List es pos) (tE S (fun ρ h => (fs ρ h).bind lstK) W) := by
  refine (pe_lst h).imp fun σ H Q ⟨m, ρ, hh, r, q, p⟩ => ?_
  refine tA_first (k := fun ρ => lstK) r q p fun vs H1 m1 h1 ds r1 q1 x1 e1 p1 => ?_
  unfold lstK at p1
  split at p1
  · rename_i hz
    have hz' : vs.length ≤ sizeLine := by rw [← sl_line, ← e1.length]; exact hz
    exact ⟨hz', p1.newL r1 e1 hz'⟩
  · exact False.elim p1
/-! ### subscripts, slices -/
theorem me_ix (hK : X.K = S.K) (ha : PE X a (tE S f W)) (hb : PE X b (tE S g W)) (hs : PlainIx b) : PE X (.Subscript a b pos) (tE S (fun ρ h => (f ρ h).bind fun x h1 => (g ρ h1).bind fun y h2 => ixD x y h2) W) :=
  (pe_ix (io_ix hK) ha hb hs).imp fun σ H Q h => tO_of (fun x y h e h' => ixD_nx x y h e h') h
def tOo (S : Sta) (f : PEnv → Hh → Rs (Option Int)) (W : WX) : St → Hp → (Option Int → Hp → Prop) → Prop := fun σ H Q => ∃ m ρ h, HR S m H h ∧ ER S m H ρ σ ∧ Po S (fun _ _ a b => a = b) (f ρ h) m H (fun c d H' => W c d σ H') Q
theorem mo_none : PO X none (tOo S (fun _ h => .ok none h) W) := by
  refine ⟨fun pins s σ H Q I ⟨m, ρ, hh, r, q, p⟩ => po_none.run pins s σ H Q I ?_⟩
  exact Po.done (R := fun _ _ a b => a = b) p r rfl
theorem mo_some (ha : PE X a (tE S f W)) : PO X (some a) (tOo S (fun ρ h => (f ρ h).bind intK) W) := by
  refine ⟨fun pins s σ H Q I ⟨m, ρ, hh, r, q, p⟩ => (po_some ha).run pins s σ H Q I ?_⟩
  refine tE_first (k := fun _ => intK) r q p fun v1 H1 m1 h1 d1 r1 q1 x1 e1 p1 => ?_
  unfold intK at p1
  split at p1 <;> try exact False.elim p1
  cases e1.int_inv
  exact ⟨_, rfl, Po.done (R := fun _ _ a b => a = b) p1 r1 rfl⟩
theorem me_sl {lo hi : Option Expr} {fl fh : PEnv → Hh → Rs (Option Int)} {p2 : Pos} (hK : X.K = S.K) (ha : PE X a (tE S f W)) (hl : PO X lo (tOo S fl W)) (hu : PO X hi (tOo S fh W)) :
    PE X (.Subscript a (.Slice lo hi none p2) pos) (tE S (fun ρ h => (f ρ h).bind fun x h1 => (fl ρ h1).bind fun l h2 => (fh ρ h2).bind fun u h3 => slD x l u h3) W) := by
  refine (pe_slice (so_sl hK) ha hl hu).imp fun σ H Q ⟨m, ρ, hh, r, q, p⟩ => ?_
  refine tE_first (k := fun ρ x h1 => (fl ρ h1).bind fun l h2 => (fh ρ h2).bind fun u h3 => slD x l u h3) r q p fun v1 H1 m1 h1 d1 r1 q1 x1 e1 p1 => ?_
  refine ⟨m1, ρ, h1, r1, q1, (Po.bind (R := fun _ _ a b => a = b) p1).imp (fun l H2 ⟨m2, h2, l', x2, r2, e2, p2⟩ => ?_) fun _ _ _ z => z⟩
  subst e2
  refine ⟨m2, ρ, h2, r2, q1.mono r1 x2, (Po.bind (R := fun _ _ a b => a = b) p2).imp (fun u H3 ⟨m3, h3, u', x3, r3, e3, p3⟩ => ?_) fun _ _ _ z => z⟩
  subst e3
  exact ⟨m3, h3, d1, r3, (e1.mono r1 x2).mono r2 x3, p3.noex fun e h' => slD_nx _ _ _ _ e h'⟩
/-! ### built-ins -/
theorem tCB_of {fs : PEnv → Hh → Rs (List D)} {o : List D → Hh → Rs D} (n : ∀ x h e h', o x h ≠ .ex e h') {σ : St} {H : Hp} {Q : VK} (h : tE S (fun ρ h => (fs ρ h).bind o) W σ H Q) : tCB (rF S o) (tAa S fs W) σ H Q := by
  obtain ⟨m, ρ, hh, r, q, p⟩ := h
  refine tA_first (k := fun ρ => o) r q p fun vs H1 m1 h1 ds r1 q1 x1 e1 p1 => ?_
  exact ⟨m1, h1, ds, r1, e1, p1.noex fun e h' => n _ _ e h'⟩
theorem me_callB {x id : Str} {id' : String} {es : List Expr} {e : Expr} {fs : PEnv → Hh → Rs (List D)} {o : List D → Hh → Rs D} {p : Pos} (hc : CallR X (.builtin id') (rF S o)) (n : ∀ x h e h', o x h ≠ .ex e h') (hg : Gl X x) (hm : X.mg x = none) (hv : bootBuiltins x = some (.builtin id'))
    (ha : PA X (e :: es) (tAa S fs W)) (hn : x ≠ "__name__") (hdb : (x == ("__debug__" : Str)) = false) (he : starEach (e :: es) X.env = (false, eval e X.env) :: starEach es X.env) (hpl : (backTo pos (starEach es X.env)).any (·.1) = false) :
    PE X (.Call (.Name x p) (e :: es) [] pos) (tE S (fun ρ h => (fs ρ h).bind o) W) := (pe_callB hc hg hm hv ha hn hdb he hpl).imp fun σ H Q h => tCB_of n h
theorem me_callT {x : Str} {T : String} {es : List Expr} {e : Expr} {fs : PEnv → Hh → Rs (List D)} {o : List D → Hh → Rs D} {p : Pos} (hc : CallR X (.type T) (rF S o)) (n : ∀ x h e h', o x h ≠ .ex e h') (hg : Gl X x) (hm : X.mg x = none) (hv : bootBuiltins x = some (.type T))
    (ha : PA X (e :: es) (tAa S fs W)) (hn : x ≠ "__name__") (hdb : (x == ("__debug__" : Str)) = false) (he : starEach (e :: es) X.env = (false, eval e X.env) :: starEach es X.env) (hpl : (backTo pos (starEach es X.env)).any (·.1) = false) :
    PE X (.Call (.Name x p) (e :: es) [] pos) (tE S (fun ρ h => (fs ρ h).bind o) W) := (pe_callTy hc hg hm hv ha hn hdb he hpl).imp fun σ H Q h => tCB_of n h
end
end MP

set_option Elab.async false
set_option linter.all false
set_option maxRecDepth 100000
set_option autoImplicit false
set_option maxHeartbeats 1000000
/-! Mp7: calls, methods, fields, isinstance, comprehensions. -/
namespace MP
open PySem PySem.Spec L2

/-- a def's promise: it does what fn does -/
def spC (S : Sta) (fn : List D → Hh → Rs D) : Sp := fun vs H Q E => ∃ m h ds, HR S m H h ∧ VRs S m H ds vs ∧ Po S (RV S) (fn ds h) m H E Q

/-- what is known of a def -/
structure FnF (S : Sta) (X : Cx) (k : Nat) (cf : Nat → List D → Hh → Rs D) (f : Nat) : Prop where
  ok : ∃ fd ps, FnOk X.prog X.w X.K X.mg X.base (L2.CX X.prog X.w) k (S.fA f) fd ps (spC S (cf f)) ∧ Binds X.K fd ps []
  kp : PySem.W.keepIn X.K (.ref (S.fA f)) = true

section
variable {X : Cx} {S : Sta} {a b c : Expr} {f g : PEnv → Hh → Rs D} {fs : PEnv → Hh → Rs (List D)} {W : WX} {pos p apos : Pos} {k : Nat} {cf : Nat → List D → Hh → Rs D} {tb : Tb}

theorem me_call {x : Str} {i : Nat} {e : Expr} {es : List Expr} (tk : Takes X W) (F : FnF S X k cf i) (hr : Room k X.A) (hg : Gl X x) (hm : X.mg x = some (.ref (S.fA i))) (hdb : (x == ("__debug__" : Str)) = false)
    (ha : PA X (e :: es) (tAa S fs W)) (he : starEach (e :: es) X.env = (false, eval e X.env) :: starEach es X.env) (hpl : (backTo pos (starEach es X.env)).any (·.1) = false) :
    PE X (.Call (.Name x p) (e :: es) [] pos) (tE S (fun ρ h => (fs ρ h).bind (cf i)) W) := by
  obtain ⟨fd, ps, F1, bd⟩ := F.ok
  refine (pe_callS (E := WE W) F1 hr hg hm F.kp bd (fun σ => passAt tk σ) ha hdb he hpl).imp fun σ H Q ⟨m, ρ, hh, r, q, p⟩ => ?_
  exact tA_first (k := fun _ => cf i) r q p fun vs H1 m1 h1 ds r1 q1 x1 e1 p1 => ⟨m1, h1, ds, r1, e1, p1⟩
/-- a call without arguments -/
theorem me_call0 {x : Str} {i : Nat} (tk : Takes X W) (F : FnF S X k cf i) (hr : Room k X.A) (hg : Gl X x) (hm : X.mg x = some (.ref (S.fA i))) (hdb : (x == ("__debug__" : Str)) = false) :
    PE X (.Call (.Name x p) [] [] pos) (tE S (fun ρ h => (Rs.ok ([] : List D) h).bind (cf i)) W) := by
  obtain ⟨fd, ps, F1, bd⟩ := F.ok
  refine ⟨fun pins s σ H Q I ⟨m, ρ, hh, r, q, p⟩ => ?_⟩
  refine wpAny_Call_Name_kw (ld_glob I hg hm ?_ hdb)
  exact PySem.W.callWith_K0 I.kIn F.kp (run_fnS (us := []) (E := WE W) F1 hr bd (passAt tk σ) I .nil ⟨m, hh, [], r, .nil, p⟩)

/-! ### methods of own classes -/
/-- the shape of the tree of a method's call -/
theorem call_tree {o : Expr} {nm : Str} {es : List Expr} {env : Env} (hb : attributeBase o nm env (eval o env) = eval o env) (hl : (apos.endLine == pos.line) = true)
    (hf : methodCallForm (es.length + ([] : List Keyword).length) (backTo pos (starEach es env)) (backToKw pos (keywordEach [] env)) = true) :
    eval (.Call (.Attribute o nm apos) es [] pos) env = (do
      let ov ← eval o env
      standAt apos.atName
      let (f, first) ← holding [ov] (getMethod ov nm (do return (← importBound o env).getD true))
      callWith pos f first (backTo pos (starEach es env)) (backToKw pos (keywordEach [] env))) := by
  rw [arm_eval_Call, hb]
  unfold methodCall
  rw [hf]
  unfold calleeOf methodCallPos
  rw [hl]
  rfl
structure MeF (S : Sta) (X : Cx) (k : Nat) (cf : Nat → List D → Hh → Rs D) (tb : Tb) (nm : Str) (mi : Nat) : Prop where
  at_ : ∀ c f, c ∈ S.cs → tb.me c mi = some f → Meth S.K (S.cA c) nm (S.fA f) ∧ FnF S X k cf f
  no : ∀ fl, S.fN fl = nm → fl = mi
theorem FR.lookup_none {m : List Addr} {H : Hp} {nm : Str} {mi : Nat} (hn : ∀ fl, S.fN fl = nm → fl = mi) : ∀ {fs : List (Nat × D)} {ws : List (Str × V)}, FR S m H fs ws → fs.lookup mi = none → ws.lookup nm = none
  | _, _, .nil, _ => rfl
  | _, _, .cons (f := f) a b, e => by
    rw [List.lookup_cons] at e ⊢
    by_cases h : mi = f
    · subst h; simp at e
    · have h2 : (mi == f) = false := by simpa using h
      rw [h2] at e
      have h3 : (nm == S.fN f) = false := by
        rw [beq_eq_false_iff_ne]
        intro z
        exact h (hn f z.symm).symm
      rw [h3]
      exact FR.lookup_none hn b e
theorem me_meth {nm : Str} {mi : Nat} {es : List Expr} (hF : ClsF S) (hK : X.K = S.K) (tk : Takes X W) (M : MeF S X k cf tb nm mi) (hr : Room k X.A) (ho : PE X a (tE S f W)) (ha : PA X es (tAa S fs W))
    (hb : attributeBase a nm X.env (eval a X.env) = eval a X.env) (hl : (apos.endLine == pos.line) = true) (hf : methodCallForm (es.length + ([] : List Keyword).length) (backTo pos (starEach es X.env)) (backToKw pos (keywordEach [] X.env)) = true)
    (hst : (es = [] ∧ fs = fun _ h => .ok [] h) ∨ ∃ e es', es = e :: es' ∧ starEach (e :: es') X.env = (false, eval e X.env) :: starEach es' X.env ∧ (backTo pos (starEach es' X.env)).any (·.1) = false) :
    PE X (.Call (.Attribute a nm apos) es [] pos) (tE S (fun ρ h => (f ρ h).bind (methK cf tb mi (fs ρ))) W) := by
  refine ⟨fun pins s σ H Q I ⟨m, ρ, hh, r, q, pp⟩ => ?_⟩
  refine PySem.W.methodCall_KW (thn (ho.run pins s σ H _ I (tE_first (k := fun ρ => methK cf tb mi (fs ρ)) r q pp fun v H1 m1 h1 d r1 q1 x1 e1 p1 => show ∃ m1 h1 d, HR S m1 H1 h1 ∧ ER S m1 H1 ρ σ ∧ VR S m1 H1 d v ∧ Po S (RV S) (methK cf tb mi (fs ρ) d h1) m1 H1 (fun c d H' => W c d σ H') Q from ⟨m1, h1, d, r1, q1, e1, p1⟩)) fun u s1 ⟨x, H1, I1, rx, m1, h1, d, r1, q1, e1, p1⟩ => ?_) (call_tree hb hl hf)
  unfold methK at p1
  split at p1
  · rename_i n fi hm
    unfold methF at hm
    split at hm
    · rename_i n'
      split at hm
      · rename_i C fl hn
        split at hm
        · rename_i fi' hlk hme
          cases hm
          obtain ⟨ad, dx, ws, rfl, had, e2, e3, hc⟩ := e1.ins_inv r1 hn
          obtain rfl : u = Value.ref ad := rx
          obtain ⟨ME, FF⟩ := M.at_ C fi hc hme
          refine getmeth_ok I1 e2 (hK ▸ hF.cl C hc) (hK ▸ ME) (FR.lookup_none M.no e3 hlk) ?_
          obtain ⟨fd, ps, F1, bd⟩ := FF.ok
          have go : ∀ {us : List Value} {vs : List V} {s2 : Shared} {H2 : Hp}, Inv X pins σ H2 s2 → Vals vs us → (∃ m2 h2 ds, Ext m1 H1 m2 H2 ∧ HR S m2 H2 h2 ∧ VRs S m2 H2 ds vs ∧ Po S (RV S) (cf fi (.ref n :: ds) h2) m2 H2 (fun c d H' => W c d σ H') Q) → wpAny (model X.prog X.w) X.A (call (.ref (S.fA fi)) (.ref ad :: us)) (EP X pins σ Q) X.xe s2 := fun {us vs s2 H2} I2 rv ⟨m2, h2, ds, x2, r2, e4, p2⟩ =>
            run_fnS (us := .ref ad :: us) (vs := .ref ad :: vs) (E := WE W) F1 hr bd (passAt tk σ) I2 (.cons rfl rv) ⟨m2, h2, .ref n :: ds, r2, .cons (.ref (x2.get had)) e4, p2⟩
          have pb := Po.bind (R := RVs S) p1
          rcases hst with ⟨rfl, rfl⟩ | ⟨e, es', rfl, h5, h6⟩
          · refine PySem.W.callWith_K0 (first := [.ref ad]) I1.kIn FF.kp ?_
            exact go (us := []) (vs := []) I1 .nil ⟨m1, h1, [], Ext.refl _ _, r1, .nil, p1⟩
          · refine PySem.W.callWith_K (first := [.ref ad]) (h₀ := X.base) I1.ok.mod.kin FF.kp (thn (ha.run pos pins s1 σ H1 _ I1 ⟨m1, ρ, h1, r1, q1, pb⟩) fun us s2 ⟨vs, H2, I2, rv, hx⟩ => ⟨I2.kIn, go I2 rv hx⟩) h5 h6
        · cases hm
      · cases hm
    · cases hm
  · exact False.elim p1

/-! ### new instances -/
theorem run_makeS {C fi : Addr} {fd : FuncData} {ps : List Str} {sp : Sp} {CX : CXT} {E : St → XK} {pins : List (Addr × Obj)} {σ : St} {H : Hp} {s : Shared} {Q : VK} {us : List Value} {vs : List V} (M : Mk X.K C fi) (F : FnOk X.prog X.w X.K X.mg X.base CX k fi fd ps sp) (hr : Room (k + 1) X.A) (hb : Binds X.K fd ps [])
    (hx : PassesAt CX X σ (E σ)) (I : Inv X pins σ H s) (r : Vals vs us)
    (h : ∀ x dx, H x = none → H dx = none → dx ≠ x → sp (.ref x :: vs) (upd (upd H dx (.own x)) x (.ins C dx [])) (fun v H2 => v = .non ∧ Q (.ref x) H2) (E σ)) :
    wpAny (model X.prog X.w) X.A (call (.ref C) us) (EP X pins σ Q) X.xe s := by
  have hq := h (s.heap.objs.size + 1) s.heap.objs.size (I.hok.fresh (Nat.le_succ _)) (I.hok.fresh (Nat.le_refl _)) (Nat.ne_of_lt (Nat.lt_succ_self _))
  have I2 := Inv.made (C := C) I
  have r2 : Vals (V.ref (s.heap.objs.size + 1) :: vs) (Value.ref (s.heap.objs.size + 1) :: us) := .cons rfl r
  have hl : (Value.ref (s.heap.objs.size + 1) :: us ++ []).length = ps.length := by
    have e := r2.length
    rw [F.len _ _ _ _ hq] at e
    rw [List.append_nil]
    exact e.symm
  have hbb := hb _ (Value.ref (s.heap.objs.size + 1) :: us) I2.kIn hl
  rw [List.append_nil] at hbb
  refine wpAny_call (make_map (f := fi) I.kIn M.makes M.init (beq_iff_eq.mp M.fn) (codeAny_mono (F.run _ X.stack _ _ ⟨Value.ref (s.heap.objs.size + 1) :: us, []⟩ (Value.ref (s.heap.objs.size + 1) :: us) _ _ (E σ) (hr.make C us [])
    (I2.env0.make C us []) hbb r2 hq) fun r s' hq' => ?_))
  cases r with
  | error e => exact hx pins _ _ e s' I2 hq'
  | ok fl =>
    cases fl with
    | ret u =>
      obtain ⟨v, H', I3, rv, ev, q3⟩ := I2.after hq'
      subst ev
      exact ⟨rv, ⟨V.ref (s.heap.objs.size + 1), H', I3, rfl, q3⟩⟩
    | next => exact False.elim hq'
    | brk => exact False.elim hq'
    | cont => exact False.elim hq'
theorem me_mk {x : Str} {C i : Nat} {e : Expr} {es : List Expr} (tk : Takes X W) (F : FnF S X k cf i) (M : Mk X.K (S.cA C) (S.fA i)) (hC : C ∈ S.cs) (hi : tb.ini C = some i) (hr : Room (k + 1) X.A) (hg : Gl X x) (hm : X.mg x = some (.ref (S.cA C))) (hdb : (x == ("__debug__" : Str)) = false)
    (ha : PA X (e :: es) (tAa S fs W)) (he : starEach (e :: es) X.env = (false, eval e X.env) :: starEach es X.env) (hpl : (backTo pos (starEach es X.env)).any (·.1) = false) :
    PE X (.Call (.Name x p) (e :: es) [] pos) (tE S (fun ρ h => (fs ρ h).bind (mkK cf C (tb.ini C))) W) := by
  obtain ⟨fd, ps, F1, bd⟩ := F.ok
  refine ⟨fun pins s σ H Q I ⟨m, ρ, hh, r, q, pp⟩ => ?_⟩
  refine wpAny_Call_Name_kw (ld_glob I hg hm ?_ hdb)
  refine PySem.W.callWith_K (h₀ := X.base) I.ok.mod.kin M.kp (thn (ha.run pos pins s σ H _ I ⟨m, ρ, hh, r, q, Po.bind (R := RVs S) pp⟩) fun us s1 ⟨vs, H1, I1, rv, m1, h1, ds, x1, r1, e1, p1⟩ => ⟨I1.kIn, ?_⟩) he hpl
  refine run_makeS (E := WE W) M F1 hr bd (passAt tk σ) I1 rv fun y dy hy hdy hne => ?_
  rw [hi] at p1
  unfold mkK at p1
  dsimp only at p1
  -- the heap with the new instance
  have E1 : Ext m1 H1 m1 (upd H1 dy (.own y)) := Ext.new hdy
  have R1 : HR S m1 (upd H1 dy (.own y)) h1 := r1.new hdy
  have hy' : upd H1 dy (.own y) y = none := by rw [upd_ne (Ne.symm hne)]; exact hy
  have E2 : Ext m1 (upd H1 dy (.own y)) (m1 ++ [y]) (upd (upd H1 dy (.own y)) y (.ins (S.cA C) dy [])) := Ext.push hy'
  have R2 : HR S (m1 ++ [y]) (upd (upd H1 dy (.own y)) y (.ins (S.cA C) dy [])) (h1 ++ [.ins C []]) := R1.push hy' ⟨hC, dy, [], upd_same, .nil⟩
  have E3 := E1.trans R1 E2
  have rf : VR S (m1 ++ [y]) (upd (upd H1 dy (.own y)) y (.ins (S.cA C) dy [])) (.ref h1.length) (.ref y) := .ref (by rw [List.getElem?_append_right (by rw [r1.len]; exact Nat.le_refl _), r1.len]; simp)
  refine ⟨m1 ++ [y], h1 ++ [.ins C []], .ref h1.length :: ds, R2, .cons rf ((VRs.mono r1 E3 e1)), ?_⟩
  revert p1
  generalize cf i (.ref h1.length :: ds) (h1 ++ [.ins C []]) = z
  intro p1
  cases z with
  | st => exact p1
  | ex e2 h2 => exact fun m2 H2 c d y2 r2 q2 => p1 m2 H2 c d (E3.trans R2 y2) r2 q2
  | ok d h2 =>
    intro m2 H2 v y2 r2 q2
    have p1' : Po S (RV S) (mkEnd h1.length d h2) m1 H1 (fun c d H' => W c d σ H') Q := p1
    unfold mkEnd at p1'
    split at p1'
    · exact ⟨q2.non_inv, p1' m2 H2 _ (E3.trans R2 y2) r2 (rf.mono R2 y2)⟩
    · exact False.elim p1'

/-! ### fields -/
/-- the fields' names -/
structure FlF (S : Sta) : Prop where
  inj : ∀ f g, S.fN f = S.fN g → f = g
theorem FR.lookup_some {m : List Addr} {H : Hp} (hn : ∀ f g, S.fN f = S.fN g → f = g) {i : Nat} {d : D} : ∀ {fs : List (Nat × D)} {ws : List (Str × V)}, FR S m H fs ws → fs.lookup i = some d → ∃ v, ws.lookup (S.fN i) = some v ∧ VR S m H d v
  | _, _, .nil, e => by simp at e
  | _, _, .cons (f := f) a b, e => by
    rw [List.lookup_cons] at e ⊢
    by_cases h : i = f
    · subst h
      simp only [beq_self_eq_true, Option.some.injEq] at e ⊢
      subst e
      exact ⟨_, rfl, a⟩
    · have h2 : (i == f) = false := by simpa using h
      rw [h2] at e
      have h3 : (S.fN i == S.fN f) = false := by
        rw [beq_eq_false_iff_ne]
        exact fun z => h (hn _ _ z)
      rw [h3]
      exact FR.lookup_some hn b e
theorem FR.put {m : List Addr} {H : Hp} (hn : ∀ f g, S.fN f = S.fN g → f = g) {i : Nat} {d : D} {v : V} (r : VR S m H d v) : ∀ {fs : List (Nat × D)} {ws : List (Str × V)}, FR S m H fs ws → FR S m H (putFs i d fs) (putF (S.fN i) v ws)
  | _, _, .nil => .cons r .nil
  | _, _, .cons (f := f) a b => by
    unfold putFs putF
    by_cases h : f = i
    · subst h
      rw [if_pos rfl, if_pos rfl]
      exact .cons r b
    · rw [if_neg h, if_neg (fun z => h (hn _ _ z))]
      exact .cons a (FR.put hn r b)
theorem FR.length {m : List Addr} {H : Hp} : ∀ {fs : List (Nat × D)} {ws : List (Str × V)}, FR S m H fs ws → fs.length = ws.length
  | _, _, .nil => rfl
  | _, _, .cons _ b => by simp [FR.length b]
theorem me_fld {i : Nat} (hF : ClsF S) (L : FlF S) (hno : ∀ c, c ∈ S.cs → NoAttr S.K (S.cA c) (S.fN i)) (hK : X.K = S.K) (ha : PE X a (tE S f W)) (hb : attributeBase a (S.fN i) X.env (eval a X.env) = eval a X.env) : PE X (.Attribute a (S.fN i) pos) (tE S (fun ρ h => (f ρ h).bind (fldK i)) W) := by
  refine (pe_fld ha hb).imp fun σ H Q ⟨m, ρ, hh, r, q, p⟩ => ?_
  refine tE_first (k := fun _ => fldK i) r q p fun v H1 m1 h1 d r1 q1 x1 e1 p => ?_
  unfold fldK at p
  split at p <;> try exact False.elim p
  split at p
  · rename_i n C fl hn
    obtain ⟨ad, dx, ws, rfl, had, e2, e3, hc⟩ := e1.ins_inv r1 hn
    cases e : fl.lookup i with
    | none => rw [e] at p; exact False.elim p
    | some d2 =>
      rw [e] at p
      obtain ⟨v, g1, g2⟩ := FR.lookup_some L.inj e3 e
      exact ⟨ad, _, dx, ws, v, rfl, e2, hK ▸ hF.cl C hc, hK ▸ hno C hc, g1, Po.done p r1 g2⟩
  · exact False.elim p

/-! ### isinstance -/
theorem isiK_nx {ts : List Ty} {x : D} {h : Hh} {e : Exn} {h' : Hh} : isiK ts x h ≠ .ex e h' := Rs.lift_nx _ _ _ _
theorem me_isi1 {t : Ty} {pn : Pos} (hF : ClsF S) (hK : X.K = S.K) (hg : Gl X "isinstance") (hm : X.mg "isinstance" = none) (ht : tyIn S t = true) (ha : PE X a (tE S f W)) (hc : PE X c (tC (tyV S t)))
    (h1 : starEach [a, c] X.env = (false, eval a X.env) :: starEach [c] X.env) (h2 : starEach [c] X.env = (false, eval c X.env) :: starEach [] X.env) :
    PE X (.Call (.Name "isinstance" pn) [a, c] [] pos) (tE S (fun ρ h => (f ρ h).bind (isiK [t])) W) := by
  refine (pe_callB call_isi hg hm (by decide +kernel) (pa_cons ha (pa_cons hc pa_nil h2) h1) (by decide) (by decide) h1 (by rw [h2]; rfl)).imp fun σ H Q ⟨m, ρ, hh, r, q, p⟩ => ?_
  refine tE_first (k := fun _ => isiK [t]) r q p fun v H1 m1 h1 d r1 q1 x1 e1 p => ?_
  unfold isiK at p
  cases e : tysD h1 d [t] with
  | none => rw [e] at p; exact False.elim p
  | some k =>
    rw [e] at p
    obtain ⟨tv, T, kk⟩ := tysD_any hF r1 e1 (ts := [t]) (by simpa using ht) (by simp) e
    have k1 : PySem.W.kitOne S.K tv (tyU S t) = some k := by
      rw [List.map_cons, List.map_nil] at kk
      unfold PySem.W.kitAny at kk
      split at kk
      · rename_i e3; rw [e3]; exact kk
      · rename_i e3; rw [e3]; cases kk; rfl
      · cases kk
    exact ⟨v, tyV S t, tv, tyU S t, k, rfl, tyV_cls S t, hK ▸ T, hK ▸ k1, Po.done p r1 (.bl _)⟩
/-- the classes of a tuple -/
def tCls (vs : List V) : TA := fun _ H Q => Q vs H
theorem pa_cls {es : List Expr} {vs : List V} (h : Paired (fun e v => PE X e (tC v)) es vs) (hs : ∀ e es', starEach (e :: es') X.env = (false, eval e X.env) :: starEach es' X.env ∨ e ∉ es) : PA X es (tCls vs) := by
  induction h with
  | nil => exact pa_nil
  | cons a b ih =>
    rename_i e v es' vs'
    refine (pa_cons a (ih fun e2 es2 => (hs e2 es2).imp id fun z z2 => z (List.mem_cons_of_mem _ z2)) ((hs e es').resolve_right fun z => z List.mem_cons_self)).imp fun σ H Q h => ?_
    exact h
theorem clsPaired (S : Sta) : ∀ ts : List Ty, Paired ClsV (ts.map (tyV S)) (ts.map (tyU S))
  | [] => .nil
  | t :: ts => .cons (tyV_cls S t) (clsPaired S ts)
theorem me_isiT {ts : List Ty} {es : List Expr} {pn : Pos} {xk : Nat} {tp : Pos} (hF : ClsF S) (hK : X.K = S.K) (hg : Gl X "isinstance") (hm : X.mg "isinstance" = none) (ht : ts.all (tyIn S) = true) (hne : ts ≠ []) (hz : ts.length ≤ 100) (ha : PE X a (tE S f W)) (hc : PA X es (tCls (ts.map (tyV S))))
    (h1 : starEach [a, .Tuple es xk tp] X.env = (false, eval a X.env) :: starEach [.Tuple es xk tp] X.env) :
    PE X (.Call (.Name "isinstance" pn) [a, .Tuple es xk tp] [] pos) (tE S (fun ρ h => (f ρ h).bind (isiK ts)) W) := by
  refine (pe_callB call_isiT hg hm (by decide +kernel) (pa_cons ha (pa_cons (pe_tup hc) pa_nil rfl) h1) (by decide) (by decide) h1 rfl).imp fun σ H Q ⟨m, ρ, hh, r, q, p⟩ => ?_
  refine tE_first (k := fun _ => isiK ts) r q p fun v H1 m1 h1 d r1 q1 x1 e1 p => ?_
  unfold isiK at p
  cases e : tysD h1 d ts with
  | none => rw [e] at p; exact False.elim p
  | some k =>
    rw [e] at p
    refine ⟨by rw [List.length_map, sizeLine_eq]; omega, fun pa hpa => ?_⟩
    have X2 : Ext m1 H1 m1 (upd H1 pa (.tup (ts.map (tyV S)))) := Ext.new hpa
    have R2 := r1.new (u := .tup (ts.map (tyV S))) hpa
    obtain ⟨tv, T, kk⟩ := tysD_any hF R2 (e1.mono r1 X2) ht hne e
    exact ⟨v, pa, ts.map (tyV S), tv, ts.map (tyU S), k, rfl, upd_same, clsPaired S ts, hK ▸ T, hK ▸ kk, Po.at_ p X2 R2 (.bl _)⟩

/-! ### methods of lists and texts -/
/-- what the method's name asks of its receiver -/
def bmT : Bm → String
  | .split | .join | .replace => "str"
  | .update | .getD => "dict"
  | _ => "list"
theorem bmOk_ty {m : List Addr} {H : Hp} {h : Hh} {b : Bm} {d : D} {v : V} (hK : X.K = S.K) (r : HR S m H h) (q : VR S m H d v) (e : bmOk b h d = true) : L2.tyV X.K (bmT b) v H := by
  have L : isLst h d = true → L2.tyV X.K "list" v H := fun e => by
    unfold isLst at e
    split at e
    · split at e
      · rename_i hn
        obtain ⟨a, vs, rfl, _, e2, _⟩ := q.lst_inv r hn
        exact .inl ⟨rfl, vs, SqL.of e2⟩
      · cases e
    · cases e
  have DD : isDct h d = true → L2.tyV X.K "dict" v H := fun e => by
    unfold isDct at e
    split at e
    · split at e
      · rename_i hn
        obtain ⟨a, vs, rfl, _, e2, _⟩ := q.dct_inv r hn
        exact .inr (.inr (.inl ⟨rfl, .inl ⟨vs, e2⟩⟩))
      · cases e
    · cases e
  have T : isStrD d = true → L2.tyV X.K "str" v H := fun e => by
    unfold isStrD at e
    split at e
    · cases q.str_inv
      exact rfl
    · cases e
  cases b
  case split => exact T e
  case join => exact T e
  case replace => exact T e
  case update => exact DD e
  case getD => exact DD e
  all_goals exact L e
theorem tBM_of {b : Bm} {gs : PEnv → Hh → Rs (List D)} (hK : X.K = S.K) {σ : St} {H : Hp} {Q : VK} (h : tE S (fun ρ h => (f ρ h).bind (bmK b (gs ρ))) W σ H Q) : tBM X.K (bmT b) (rM S (bmD b)) (tE S f W) (tAa S gs W) σ H Q := by
  obtain ⟨m, ρ, hh, r, q, p⟩ := h
  refine tE_first (k := fun ρ => bmK b (gs ρ)) r q p fun v H1 m1 h1 d r1 q1 x1 e1 p => ?_
  unfold bmK at p
  split at p
  · rename_i hok
    refine ⟨bmOk_ty hK r1 e1 hok, ?_⟩
    refine tA_first (k := fun _ => bmD b d) r1 q1 p fun vs H2 m2 h2 ds r2 q2 x2 e2 p2 => ?_
    exact ⟨m2, h2, d, ds, r2, e1.mono r1 x2, e2, p2.noex fun e h' => bmD_nx _ _ _ _ e h'⟩
  · exact False.elim p
theorem me_bm {nm : Str} {id T : String} {b : Bm} {e : Expr} {es : List Expr} (hK : X.K = S.K) (hT : bmT b = T) (pa : PlainAttrs T) (slot : Slot T nm id) (hty : typeOf (.builtin id) = pure (.type "method_descriptor")) (hm : MtR X id (rM S (bmD b))) (ho : PE X a (tE S f W)) (ha : PA X (e :: es) (tAa S fs W))
    (hbase : attributeBase a nm X.env (eval a X.env) = eval a X.env)
    (hfew : ((backTo pos (starEach (e :: es) X.env)).all (fun x => !x.1) && (backToKw pos (keywordEach [] X.env)).all (fun x => x.1.isSome) && decide ((e :: es).length + ([] : List Keyword).length + (if ([] : List Keyword).isEmpty then 0 else 1) < 30)) = true)
    (hline : (apos.endLine == pos.line) = true) (hs : starEach (e :: es) X.env = (false, eval e X.env) :: starEach es X.env) (hplain : (backTo pos (starEach es X.env)).any (·.1) = false) :
    PE X (.Call (.Attribute a nm apos) (e :: es) [] pos) (tE S (fun ρ h => (f ρ h).bind (bmK b (fs ρ))) W) := by
  subst hT
  exact (pe_bm pa slot hty hm ho ha hbase hfew hline hs hplain).imp fun σ H Q h => tBM_of hK h
theorem me_bm0 {nm : Str} {id T : String} {b : Bm} (hK : X.K = S.K) (hT : bmT b = T) (pa : PlainAttrs T) (slot : Slot T nm id) (hty : typeOf (.builtin id) = pure (.type "method_descriptor")) (hm : MtR X id (rM S (bmD b))) (ho : PE X a (tE S f W))
    (hbase : attributeBase a nm X.env (eval a X.env) = eval a X.env) (hline : (apos.endLine == pos.line) = true) :
    PE X (.Call (.Attribute a nm apos) [] [] pos) (tE S (fun ρ h => (f ρ h).bind (bmK b fun h => .ok [] h)) W) := by
  subst hT
  refine (pe_bm0 pa slot hty hm ho hbase hline).imp fun σ H Q ⟨m, ρ, hh, r, q, p⟩ => ?_
  refine tE_first (k := fun ρ => bmK b fun h => .ok [] h) r q p fun v H1 m1 h1 d r1 q1 x1 e1 p => ?_
  unfold bmK at p
  split at p
  · rename_i hok
    exact ⟨bmOk_ty hK r1 e1 hok, m1, h1, d, [], r1, e1, .nil, (show Po S (RV S) (bmD b d [] h1) m1 H1 _ Q from p).noex fun e h' => bmD_nx _ _ _ _ e h'⟩
  · exact False.elim p

/-! ### list comprehensions -/
mutual
def tgS : Tg → List Nat
  | .nm i => [i]
  | .tp ts => tgsS ts
def tgsS : Tgs → List Nat
  | .nil => []
  | .cons t ts => tgS t ++ tgsS ts
end
/-- a target's store -/
def tG (S : Sta) (tg : Tg) : TG := fun v σ H Q => ∃ m d ρ ρ' h, HR S m H h ∧ ER S m H ρ σ ∧ VR S m H d v ∧ bindTg tg d ρ = some ρ' ∧ ∀ σ', ER S m H ρ' σ' → (∀ i, i ∉ tgS tg → σ'[i]? = σ[i]?) → σ'.length = σ.length → Q σ' H
def tGs (S : Sta) (tg : Tgs) : TGs := fun vs σ H Q => ∃ m ds ρ ρ' h, HR S m H h ∧ ER S m H ρ σ ∧ VRs S m H ds vs ∧ bindTgs tg ds ρ = some ρ' ∧ ∀ σ', ER S m H ρ' σ' → (∀ i, i ∉ tgsS tg → σ'[i]? = σ[i]?) → σ'.length = σ.length → Q σ' H
theorem _root_.L2.PG.imp {X : Cx} {e : Expr} {t t' : TG} (p : PG X e t) (h : ∀ v σ H Q, t' v σ H Q → t v σ H Q) : PG X e t' := ⟨fun pins s σ H x u Q I r y => p.run pins s σ H x u Q I r (h _ _ _ _ y)⟩
theorem _root_.L2.PGs.imp {X : Cx} {e : List Expr} {t t' : TGs} (p : PGs X e t) (h : ∀ v σ H Q, t' v σ H Q → t v σ H Q) : PGs X e t' := ⟨fun pins s σ H x u Q I r y => p.run pins s σ H x u Q I r (h _ _ _ _ y)⟩
theorem mg_nm {i : Nat} {x : Str} {q : Pos} (hx0 : ∀ p ∈ S.xs, p.1 ≠ i) (hN : X.N.Nodup) (hi : X.N[i]? = some x) (hx : Loc X.env.scope x) (hf : X.fn x = true ∨ X.env.scope.names.lookup x = some .local) : PG X (.Name x q) (tG S (.nm i)) :=
  (pg_name hN hi hx hf).imp fun v σ H Q ⟨m, d, ρ, ρ', h, r, e, vr, eb, k⟩ => by
    simp only [bindTg] at eb
    split at eb
    · cases eb
      exact k _ (e.set i hx0 vr) (fun j hj => by rw [List.getElem?_set_ne (by intro z; exact hj (by simp [tgS, z]))]) (by simp)
    · cases eb
theorem mgs_nil : PGs X [] (tGs S .nil) := pgs_nil.imp fun vs σ H Q ⟨m, ds, ρ, ρ', h, r, e, vr, eb, k⟩ => by
  cases ds with
  | nil =>
    cases vr
    simp only [bindTgs, Option.some.injEq] at eb
    subst eb
    exact ⟨rfl, k σ e (fun _ _ => rfl) rfl⟩
  | cons d ds => simp [bindTgs] at eb
end
end MP

set_option Elab.async false
set_option linter.all false
set_option maxRecDepth 100000
set_option autoImplicit false
set_option maxHeartbeats 1000000
/-! Mp8: targets, list comprehensions. -/
namespace MP
open PySem PySem.Spec L2
section
variable {X : Cx} {S : Sta} {a b c : Expr} {f g : PEnv → Hh → Rs D} {fs : PEnv → Hh → Rs (List D)} {W : WX} {pos p apos : Pos} {k : Nat} {cf : Nat → List D → Hh → Rs D} {tb : Tb}

theorem mgs_cons {e : Expr} {es : List Expr} {t : Tg} {ts : Tgs} (h1 : PG X e (tG S t)) (h2 : PGs X es (tGs S ts)) (hs : (assignEach (e :: es) X.env).map (·.2) = assign e X.env :: (assignEach es X.env).map (·.2)) : PGs X (e :: es) (tGs S (.cons t ts)) :=
  (pgs_cons h1 h2 hs).imp fun vs σ H Q ⟨m, ds, ρ, ρ', h, r, e, vr, eb, k⟩ => by
    cases ds with
    | nil => simp [bindTgs] at eb
    | cons d ds =>
      cases vr with
      | cons a b =>
        simp only [bindTgs] at eb
        obtain ⟨ρ1, e1, e2⟩ := Option.bind_eq_some_iff.mp eb
        refine ⟨_, _, rfl, m, d, ρ, ρ1, h, r, e, a, e1, fun σ1 q1 n1 l1 => ?_⟩
        refine ⟨m, ds, ρ1, ρ', h, r, q1, b, e2, fun σ2 q2 n2 l2 => k σ2 q2 (fun i hi => ?_) (l2.trans l1)⟩
        simp only [tgsS, List.mem_append, not_or] at hi
        rw [n2 i hi.2, n1 i hi.1]
def lenTs : Tgs → Nat
  | .nil => 0
  | .cons _ ts => lenTs ts + 1
theorem bindTgs_len : ∀ {ts : Tgs} {ds : List D} {ρ ρ' : PEnv}, bindTgs ts ds ρ = some ρ' → ds.length = lenTs ts
  | .nil, [], _, _, _ => rfl
  | .nil, _ :: _, _, _, e => by simp [bindTgs] at e
  | .cons _ _, [], _, _, e => by simp [bindTgs] at e
  | .cons t ts, d :: ds, _, _, e => by
    simp only [bindTgs] at e
    obtain ⟨ρ1, _, e2⟩ := Option.bind_eq_some_iff.mp e
    simp [lenTs, bindTgs_len e2]
theorem mg_tup {es : List Expr} {xk : Nat} {ts : Tgs} (hc : X.calm = true) (hK : X.K = S.K) (h : PGs X es (tGs S ts)) (hn : (assignEach es X.env).length = lenTs ts) (hst : (assignEach es X.env).findIdx? (·.1) = none) : PG X (.Tuple es xk pos) (tG S (.tp ts)) :=
  (pg_tup hc h hn hst).imp fun v σ H Q ⟨m, d, ρ, ρ', h, r, e, vr, eb, k⟩ => by
    cases d with
    | tup l =>
      simp only [bindTg] at eb
      obtain ⟨a, vs, rfl, e2, e3⟩ := vr.tup_inv
      exact ⟨a, vs, rfl, SqT.of e2, by rw [← e3.length]; exact bindTgs_len eb, m, l, ρ, ρ', h, r, e, e3, eb, fun σ' q n l => k σ' q (by simpa only [tgS] using n) l⟩
    | non => simp [bindTg] at eb
    | bl _ => simp [bindTg] at eb
    | int _ => simp [bindTg] at eb
    | str _ => simp [bindTg] at eb
    | ref _ => simp [bindTg] at eb
    | fn _ => simp [bindTg] at eb
    | frz _ => simp [bindTg] at eb
theorem wipe_get {σ : St} {i : Nat} : ∀ {vs : List Nat}, i ∈ vs → i < σ.length → (L2.wipe σ vs)[i]? = some none
  | [], h, _ => by cases h
  | v :: vs, h, hl => by
    unfold L2.wipe
    by_cases hv : v = i
    · subst hv
      rw [List.getElem?_set_self (by rw [wipe_length]; exact hl)]
    · rw [List.getElem?_set_ne hv]
      exact wipe_get ((List.mem_cons.mp h).resolve_left (fun z => hv z.symm)) hl
theorem wipe_eq {σ σ2 : St} {vs : List Nat} {own : List Nat} (hl : σ2.length = (L2.wipe σ own).length) (hs : ∀ i ∈ vs, i ∈ own) (h : ∀ i, i ∉ vs → σ2[i]? = (L2.wipe σ own)[i]?) : L2.wipe σ2 own = L2.wipe σ own := by
  apply List.ext_getElem?
  intro i
  rw [wipe_length] at hl
  by_cases hi : i ∈ own
  · by_cases hlt : i < σ.length
    · rw [wipe_get hi hlt, wipe_get hi (by omega)]
    · rw [List.getElem?_eq_none (by rw [wipe_length]; omega), List.getElem?_eq_none (by rw [wipe_length]; omega)]
  · rw [wipe_out hi, h i (fun z => hi (hs i z))]
abbrev W0 : WX := fun _ _ _ _ => False
/-- the reading of a comprehension -/
theorem tLc_of (hx0 : S.xs = []) {fi : PEnv → Hh → Rs Itr} {fc : PEnv → Hh → Rs Bool} {fe : PEnv → Hh → Rs D} {tg : Tg} {own : List Nat} (hown : ∀ i ∈ tgS tg, i ∈ own) {σ : St} {H : Hp} {Q : VK}
    (h : tE S (fun ρ h => (fi ρ h).bind fun J h1 => lcLoop J.nxt (lcTurn tg own fc fe ρ) J.fuel 0 [] h1) W σ H Q) : tLc (tI S fi W) (tG S tg) (tTt S fc W0) (tE S fe W0) own σ H Q := by
  obtain ⟨m, ρ, hh, r, q, p⟩ := h
  refine ⟨m, ρ, hh, r, q, (Po.bind (R := RIt S) p).imp (fun J H1 ⟨m1, h1, I, x1, r1, RI, p1⟩ D hD => ?_) fun _ _ _ z => z⟩
  have q1 := q.mono r x1
  refine ⟨fun i mm H2 => ∃ m2 h2 accD accV, Ext m1 H1 m2 H2 ∧ HR S m2 H2 h2 ∧ D ∉ m2 ∧ H2 D = some (.lst accV) ∧ VRs S m2 H2 accD accV ∧ accV.length ≤ sizeLine ∧ Po S (RV S) (lcLoop I.nxt (lcTurn tg own fc fe ρ) mm i accD h2) m1 H1 (fun c d H' => W c d σ H') Q,
    ⟨I.fuel, m1, h1, [], [], Ext.new hD, r1.new hD, r1.fresh hD, upd_same, .nil, Nat.zero_le _, p1⟩, ?_⟩
  rintro i mm H2 ⟨m2, h2, accD, accV, x2, r2, nD, eD, vA, zA, p2⟩
  obtain ⟨RI1, RI2⟩ := RI m2 H2 h2 i x2 r2
  have fin : Po S (RV S) (.ok (.ref h2.length) (h2 ++ [.lst accD])) m1 H1 (fun c d H' => W c d σ H') Q → Q (.ref D) H2 := fun p3 => by
    have g : ∀ (n : Nat) (a : Addr), m2[n]? = some a → (m2 ++ [D])[n]? = some a := fun n a e => by
      rw [List.getElem?_append_left (List.getElem?_eq_some_iff.mp e).1]; exact e
    refine p3 (m2 ++ [D]) H2 _ ⟨?_, x2.oth⟩ (r2.join nD ⟨accV, eD, vA.wk g (fun _ _ e _ => e), zA⟩) (.ref (by rw [List.getElem?_append_right (by rw [r2.len]; exact Nat.le_refl _), r2.len]; simp))
    obtain ⟨k, e, fk⟩ := x2.pre
    refine ⟨k ++ [D], by rw [e, List.append_assoc], fun a ha => ?_⟩
    rcases List.mem_append.mp ha with ha | ha
    · exact fk a ha
    · have e' : a = D := by simpa using ha
      rw [e']; exact hD
  cases en : I.nxt h2 i with
  | none =>
    cases mm with
    | zero => unfold lcLoop at p2; rw [en] at p2; exact False.elim p2
    | succ mm => unfold lcLoop at p2; rw [en] at p2; exact False.elim p2
  | some o =>
    cases o with
    | none =>
      refine .inl ⟨RI2 en, fin ?_⟩
      cases mm with
      | zero => unfold lcLoop at p2; rw [en] at p2; exact p2
      | succ mm => unfold lcLoop at p2; rw [en] at p2; exact p2
    | some x =>
      obtain ⟨G, Y⟩ := RI1 x en
      cases mm with
      | zero => unfold lcLoop at p2; rw [en] at p2; exact False.elim p2
      | succ mm =>
        unfold lcLoop at p2
        rw [en] at p2
        dsimp only at p2
        refine .inr ⟨G, fun H' => ∃ m2 h2 accD accV, Ext m1 H1 m2 H' ∧ HR S m2 H' h2 ∧ D ∉ m2 ∧ H' D = some (.lst accV) ∧ VRs S m2 H' accD accV ∧ accV.length ≤ sizeLine ∧ Po S (RV S) (lcLoop I.nxt (lcTurn tg own fc fe ρ) mm (i + 1) accD h2) m1 H1 (fun c d H' => W c d σ H') Q,
          fun H' z => ⟨mm, Nat.lt_succ_self _, z⟩, fun v H3 y => ?_⟩
        obtain ⟨x3, r3, v3⟩ := Y v H3 y
        have eD3 : H3 D = some (.lst accV) := x3.oth D _ nD eD
        have q3 : ER S m2 H3 ρ σ := ((q1.mono r1 x2).mono r2 x3)
        have q3w : ER S m2 H3 (wipeE ρ own) (L2.wipe σ own) := q3.wipe hx0 own
        unfold lcTurn at p2
        cases eb : bindTg tg x (wipeE ρ own) with
        | none => rw [eb] at p2; exact False.elim p2
        | some ρ' =>
          rw [eb] at p2
          dsimp only at p2
          refine ⟨m2, x, wipeE ρ own, ρ', h2, r3, q3w, v3, eb, fun σ2 q4 n4 l4 => ⟨wipe_eq l4 hown n4, ?_⟩⟩
          -- the test
          have y3 : Ext m1 H1 m2 H3 := x2.trans r2 x3
          refine ⟨m2, ρ', h2, r3, q4, ?_⟩
          revert p2
          cases fc ρ' h2 with
          | st => intro p2; exact False.elim p2
          | ex e h3 => intro p2; exact False.elim p2
          | ok k h3 =>
            intro p2
            intro m3 H4 k' x4 r4 hk
            cases hk
            have eD4 : H4 D = some (.lst accV) := x4.oth D _ nD eD3
            have nD3 : D ∉ m3 := fun z => by
              obtain ⟨kk, e, fk⟩ := x4.pre
              rw [e] at z
              rcases List.mem_append.mp z with z | z
              · exact nD z
              · rw [fk D z] at eD3; cases eD3
            have y4 : Ext m1 H1 m3 H4 := y3.trans r3 x4
            have vA4 : VRs S m3 H4 accD accV := (vA.mono r2 x3).mono r3 x4
            cases k with
            | false =>
              refine iteF ?_
              exact ⟨m3, h3, accD, accV, y4, r4, nD3, eD4, vA4, zA, p2⟩
            | true =>
              refine iteT ?_
              refine ⟨m3, ρ', h3, r4, q4.mono r3 x4, ?_⟩
              revert p2
              simp only [Rs.bind, if_true]
              cases fe ρ' h3 with
              | st => intro p2; exact False.elim p2
              | ex e h4 => intro p2; exact False.elim p2
              | ok yv h4 =>
                intro p2 m4 H5 yV x5 r5 v5
                have eD5 : H5 D = some (.lst accV) := x5.oth D _ nD3 eD4
                have nD4 : D ∉ m4 := fun z => by
                  obtain ⟨kk, e, fk⟩ := x5.pre
                  rw [e] at z
                  rcases List.mem_append.mp z with z | z
                  · exact nD3 z
                  · rw [fk D z] at eD4; cases eD4
                dsimp only at p2
                split at p2
                · rename_i hz
                  have hz' : accV.length < sizeLine := by rw [← sl_line, ← vA.length]; exact hz
                  refine ⟨accV, eD5, hz', ?_⟩
                  have kp : ∀ a o, H5 a = some o → mutK o = false → upd H5 D (.lst (accV ++ [yV])) a = some o := fun a o e n => by
                    rw [upd_ne (fun z => by rw [z, eD5] at e; cases e; cases n)]
                    exact e
                  have y5 := y4.trans r4 x5
                  refine ⟨m4, h4, accD ++ [yv], accV ++ [yV], ⟨y5.pre, fun b o nb e => ?_⟩, r5.side nD4 eD5 rfl, nD4, upd_same, ((vA4.mono r4 x5).append (.cons v5 .nil)).wk (fun _ _ e => e) kp, by rw [List.length_append]; exact hz', p2⟩
                  rw [upd_ne (fun z => by rw [z, hD] at e; cases e)]
                  exact y5.oth b o nb e
                · exact False.elim p2
end
end MP

set_option Elab.async false
set_option linter.all false
set_option maxRecDepth 100000
set_option autoImplicit false
set_option maxHeartbeats 1000000
/-! Mp9: statements. -/
namespace MP
open PySem PySem.Spec L2

def PoS (S : Sta) (r : Sr) (m : List Addr) (H : Hp) (W : WX) (D : Ends) : Prop :=
  match r with
  | .ok (.nx ρ) h' => ∀ m' H' σ', Ext m H m' H' → HR S m' H' h' → ER S m' H' ρ σ' → D.nx σ' H'
  | .ok (.rt d) h' => ∀ m' H' v, Ext m H m' H' → HR S m' H' h' → VR S m' H' d v → D.rt v H'
  | .ok (.bk ρ) h' => ∀ m' H' σ', Ext m H m' H' → HR S m' H' h' → ER S m' H' ρ σ' → D.bk σ' H'
  | .ok (.ct ρ) h' => ∀ m' H' σ', Ext m H m' H' → HR S m' H' h' → ER S m' H' ρ σ' → D.ct σ' H'
  | .ex e ρ h' => ∀ m' H' σ' cls d, Ext m H m' H' → HR S m' H' h' → ER S m' H' ρ σ' → XR S m' H' e cls d → W cls d σ' H'
  | .st => False
def tS (S : Sta) (f : PEnv → Hh → Sr) (W : WX) : TS := fun D σ H => ∃ m ρ h, HR S m H h ∧ ER S m H ρ σ ∧ PoS S (f ρ h) m H W D
section
variable {X : Cx} {S : Sta} {a b c : Expr} {f g : PEnv → Hh → Rs D} {fs : PEnv → Hh → Rs (List D)} {W : WX} {pos p apos : Pos} {k : Nat} {cf : Nat → List D → Hh → Rs D} {tb : Tb}
/-- from a later heap -/
theorem PoS.later {m m1 : List Addr} {H H1 : Hp} {h1 : Hh} {r : Sr} {D : Ends} (x : Ext m H m1 H1) (r1 : HR S m1 H1 h1) (p : PoS S r m H W D) : PoS S r m1 H1 W D := by
  cases r with
  | ok f h' =>
    cases f with
    | nx ρ => exact fun m2 H2 σ y r2 q => p m2 H2 σ (x.trans r1 y) r2 q
    | rt d => exact fun m2 H2 σ y r2 q => p m2 H2 σ (x.trans r1 y) r2 q
    | bk ρ => exact fun m2 H2 σ y r2 q => p m2 H2 σ (x.trans r1 y) r2 q
    | ct ρ => exact fun m2 H2 σ y r2 q => p m2 H2 σ (x.trans r1 y) r2 q
  | ex e ρ h' => exact fun m2 H2 σ c d y r2 q z => p m2 H2 σ c d (x.trans r1 y) r2 q z
  | st => exact p
theorem toS_first {α β : Type} {R : List Addr → Hp → α → β → Prop} {r : Rs α} {ρ : PEnv} {σ : St} {k : α → Hh → Sr} {m : List Addr} {H : Hp} {h : Hh} {D : Ends} (r0 : HR S m H h) (q : ER S m H ρ σ) (p : PoS S (r.toS ρ k) m H W D) :
    Po S R r m H (fun c d H' => W c d σ H') fun b H1 => ∃ m1 h1 a, Ext m H m1 H1 ∧ HR S m1 H1 h1 ∧ R m1 H1 a b ∧ PoS S (k a h1) m1 H1 W D := by
  cases r with
  | ok a h1 => exact fun m1 H1 b x1 r1 e1 => ⟨m1, h1, a, x1, r1, e1, PoS.later x1 r1 p⟩
  | ex e h1 => exact fun m1 H1 c d x1 r1 e1 => p m1 H1 σ c d x1 r1 (q.mono r0 x1) e1
  | st => exact p
theorem sE_first {σ : St} {H : Hp} {k : PEnv → D → Hh → Sr} {D : Ends} {m : List Addr} {ρ : PEnv} {h : Hh} (r : HR S m H h) (q : ER S m H ρ σ) (p : PoS S ((f ρ h).toS ρ (k ρ)) m H W D) {Q' : V → Hp → Prop}
    (y : ∀ v H1 m1 h1 d, HR S m1 H1 h1 → ER S m1 H1 ρ σ → Ext m H m1 H1 → VR S m1 H1 d v → PoS S (k ρ d h1) m1 H1 W D → Q' v H1) : tE S f W σ H Q' :=
  ⟨m, ρ, h, r, q, (toS_first (R := RV S) r q p).imp (fun v H1 ⟨m1, h1, d, x1, r1, e1, p1⟩ => y v H1 m1 h1 d r1 (q.mono r x1) x1 e1 p1) fun _ _ _ z => z⟩
theorem sT_first {f' : PEnv → Hh → Rs Bool} {σ : St} {H : Hp} {k : PEnv → Bool → Hh → Sr} {D : Ends} {m : List Addr} {ρ : PEnv} {h : Hh} (r : HR S m H h) (q : ER S m H ρ σ) (p : PoS S ((f' ρ h).toS ρ (k ρ)) m H W D) {Q' : Bool → Hp → Prop}
    (y : ∀ v H1 m1 h1, HR S m1 H1 h1 → ER S m1 H1 ρ σ → Ext m H m1 H1 → PoS S (k ρ v h1) m1 H1 W D → Q' v H1) : tTt S f' W σ H Q' :=
  ⟨m, ρ, h, r, q, (toS_first (R := RB) r q p).imp (fun v H1 ⟨m1, h1, d, x1, r1, e1, p1⟩ => by cases e1; exact y v H1 m1 h1 r1 (q.mono r x1) x1 p1) fun _ _ _ z => z⟩
theorem sA_first {σ : St} {H : Hp} {k : PEnv → List D → Hh → Sr} {D : Ends} {m : List Addr} {ρ : PEnv} {h : Hh} (r : HR S m H h) (q : ER S m H ρ σ) (p : PoS S ((fs ρ h).toS ρ (k ρ)) m H W D) {Q' : List V → Hp → Prop}
    (y : ∀ v H1 m1 h1 d, HR S m1 H1 h1 → ER S m1 H1 ρ σ → Ext m H m1 H1 → VRs S m1 H1 d v → PoS S (k ρ d h1) m1 H1 W D → Q' v H1) : tAa S fs W σ H Q' :=
  ⟨m, ρ, h, r, q, (toS_first (R := RVs S) r q p).imp (fun v H1 ⟨m1, h1, d, x1, r1, e1, p1⟩ => y v H1 m1 h1 d r1 (q.mono r x1) x1 e1 p1) fun _ _ _ z => z⟩
theorem asg_of {tg : Tg} {D : Ends} {σ : St} {H : Hp} (h : tS S (fun ρ h => (f ρ h).toS ρ (asgK tg ρ)) W D σ H) : tAsg (tE S f W) (tG S tg) D σ H := by
  obtain ⟨m, ρ, hh, r, q, p⟩ := h
  refine sE_first (k := asgK tg) r q p fun v H1 m1 h1 d r1 q1 x1 e1 p1 => ?_
  unfold asgK at p1
  split at p1
  · rename_i ρ' eb
    exact ⟨m1, d, ρ, ρ', h1, r1, q1, e1, eb, fun σ' q' _ _ => p1 m1 H1 σ' (Ext.refl _ _) r1 q'⟩
  · exact False.elim p1
theorem ms_asg {tg : Expr} {t : Tg} (he : PE X a (tE S f W)) (hg : PG X tg (tG S t)) (hs : swapsWithSole [tg] a pos.line X.env = pure false) (hw : swappedStores [tg] a X.env = pure none) (h1 : (assignEach [tg] X.env).map (·.2) = [assign tg X.env]) :
    PS X (.Assign [tg] a pos) (tS S (fun ρ h => (f ρ h).toS ρ (asgK t ρ)) W) := (ps_asg he hg hs hw h1).imp fun D σ H h => asg_of h
theorem ms_exp (he : PE X a (tE S f W)) (hs : swapsWith a none pos.line X.env = pure false) : PS X (.Expr a pos) (tS S (fun ρ h => (f ρ h).toS ρ fun _ h1 => .ok (.nx ρ) h1) W) :=
  (ps_expr he hs).imp fun D σ H ⟨m, ρ, hh, r, q, p⟩ => sE_first (k := fun ρ _ h1 => .ok (.nx ρ) h1) r q p fun v H1 m1 h1 d r1 q1 x1 e1 p1 => p1 m1 H1 σ (Ext.refl _ _) r1 q1
theorem ms_ret (he : PE X a (tE S f W)) : PS X (.Return (some a) pos) (tS S (fun ρ h => (f ρ h).toS ρ fun d h1 => .ok (.rt d) h1) W) :=
  (ps_ret he).imp fun D σ H ⟨m, ρ, hh, r, q, p⟩ => sE_first (k := fun ρ d h1 => .ok (.rt d) h1) r q p fun v H1 m1 h1 d r1 q1 x1 e1 p1 => p1 m1 H1 v (Ext.refl _ _) r1 e1
theorem ms_retn : PS X (.Return none pos) (tS S (fun ρ h => .ok (.rt .non) h) W) :=
  ps_retN.imp fun D σ H ⟨m, ρ, hh, r, q, p⟩ => p m H .non (Ext.refl _ _) r .non
theorem ms_pass : PS X (.Pass pos) (tS S (fun ρ h => .ok (.nx ρ) h) W) := ps_pass.imp fun D σ H ⟨m, ρ, hh, r, q, p⟩ => p m H σ (Ext.refl _ _) r q
theorem ms_brk : PS X (.Break pos) (tS S (fun ρ h => .ok (.bk ρ) h) W) := ps_break.imp fun D σ H ⟨m, ρ, hh, r, q, p⟩ => p m H σ (Ext.refl _ _) r q
theorem ms_cont : PS X (.Continue pos) (tS S (fun ρ h => .ok (.ct ρ) h) W) := ps_continue.imp fun D σ H ⟨m, ρ, hh, r, q, p⟩ => p m H σ (Ext.refl _ _) r q
theorem mss_nil : PSs X [] (tS S (fun ρ h => .ok (.nx ρ) h) W) := pss_nil.imp fun D σ H ⟨m, ρ, hh, r, q, p⟩ => p m H σ (Ext.refl _ _) r q
theorem mss_cons {st : Stmt} {rest : List Stmt} {f g : PEnv → Hh → Sr} (h1 : PS X st (tS S f W)) (h2 : PSs X rest (tS S g W)) : PSs X (st :: rest) (tS S (fun ρ h => seqK g (f ρ h)) W) := by
  refine (pss_cons h1 h2).imp fun D σ H ⟨m, ρ, hh, r, q, p⟩ => ⟨m, ρ, hh, r, q, ?_⟩
  dsimp only at p ⊢
  generalize f ρ hh = z at p
  cases z with
  | ok fl h' =>
    cases fl with
    | nx ρ' => exact fun m1 H1 σ1 x1 r1 q1 => ⟨m1, ρ', h', r1, q1, PoS.later x1 r1 (show PoS S (g ρ' h') m H W D from p)⟩
    | rt d => exact p
    | bk ρ' => exact p
    | ct ρ' => exact p
  | ex e ρ' h' => exact p
  | st => exact p
theorem ms_if {st sf : List Stmt} {f' : PEnv → Hh → Rs Bool} {g1 g2 : PEnv → Hh → Sr} (hc : PT X c (tTt S f' W)) (h1 : PSs X st (tS S g1 W)) (h2 : PSs X sf (tS S g2 W)) :
    PS X (.If c st sf pos) (tS S (fun ρ h => (f' ρ h).toS ρ fun k h1 => if k then g1 ρ h1 else g2 ρ h1) W) := by
  refine (ps_if hc h1 h2).imp fun D σ H ⟨m, ρ, hh, r, q, p⟩ => ?_
  refine sT_first (k := fun ρ k h1 => if k then g1 ρ h1 else g2 ρ h1) r q p fun v H1 m1 h1 r1 q1 x1 p1 => ?_
  cases v with
  | true => exact ⟨m1, ρ, h1, r1, q1, p1⟩
  | false => exact ⟨m1, ρ, h1, r1, q1, p1⟩
theorem ms_whl {body : List Stmt} {f' : PEnv → Hh → Rs Bool} {g1 : PEnv → Hh → Sr} (hp : PassesOwn (model X.prog X.w) X.A X.env X.xe) (hc : PT X c (tTt S f' W)) (hb : PSs X body (tS S g1 W)) (n : Nat) :
    PS X (.While c body [] pos) (tS S (fun ρ h => whlLoop f' g1 n ρ h) W) := by
  refine (ps_while hp hc hb).imp fun D σ H ⟨m, ρ, hh, r, q, p⟩ => ?_
  refine ⟨fun k σ' H' => ∃ m' ρ' h', HR S m' H' h' ∧ ER S m' H' ρ' σ' ∧ PoS S (whlLoop f' g1 k ρ' h') m' H' W D, ⟨n, m, ρ, hh, r, q, p⟩, ?_⟩
  rintro k σ' H' ⟨m', ρ', h', r', q', p'⟩
  cases k with
  | zero => unfold whlLoop at p'; exact False.elim p'
  | succ k =>
    unfold whlLoop at p'
    refine ⟨m', ρ', h', r', q', ?_⟩
    revert p'
    cases f' ρ' h' with
    | st => intro p'; exact False.elim p'
    | ex e h1 => exact fun p' m1 H1 c d x1 r1 e1 => p' m1 H1 σ' c d x1 r1 (q'.mono r' x1) e1
    | ok kb h1 =>
      intro p' m1 H1 kv x1 r1 ek
      cases ek
      have q1 := q'.mono r' x1
      cases kb with
      | false => exact iteF (p' m1 H1 σ' x1 r1 q1)
      | true =>
        refine iteT ⟨fun σ2 H2 => ∃ m2 ρ2 h2, HR S m2 H2 h2 ∧ ER S m2 H2 ρ2 σ2 ∧ PoS S (whlLoop f' g1 k ρ2 h2) m2 H2 W D, fun σ2 H2 z => ⟨k, Nat.lt_succ_self _, z⟩, m1, ρ', h1, r1, q1, ?_⟩
        dsimp only at p' ⊢
        replace p' := PoS.later x1 r1 p'
        revert p'
        cases g1 ρ' h1 with
        | st => exact fun p' => p'
        | ex e ρ2 h2 => exact fun p' => p'
        | ok fl h2 =>
          cases fl with
          | nx ρ2 => exact fun p' m2 H2 σ2 x2 r2 q2 => ⟨m2, ρ2, h2, r2, q2, PoS.later x2 r2 p'⟩
          | ct ρ2 => exact fun p' m2 H2 σ2 x2 r2 q2 => ⟨m2, ρ2, h2, r2, q2, PoS.later x2 r2 p'⟩
          | bk ρ2 => exact fun p' => p'
          | rt d => exact fun p' => p'
theorem ms_for {tg iter : Expr} {body : List Stmt} {t : Tg} {fi : PEnv → Hh → Rs Itr} {g1 : PEnv → Hh → Sr} (hp : PassesOwn (model X.prog X.w) X.A X.env X.xe) (hc : X.calm = true) (hi : PI X tg iter (tI S fi W)) (hg : PG X tg (tG S t)) (hb : PSs X body (tS S g1 W))
    (hs : ∀ x, foldedSetIterable iter X.env x = pure x) : PS X (.For tg iter body [] pos) (tS S (fun ρ h => (fi ρ h).toS ρ fun J h1 => forLoop J.nxt (forBody t g1) J.fuel 0 ρ h1) W) := by
  refine (ps_for hp hc hi hg hb hs).imp fun D σ H ⟨m, ρ, hh, r, q, p⟩ => ?_
  refine ⟨m, ρ, hh, r, q, (toS_first (R := RIt S) r q p).imp (fun J H1 ⟨m1, h1, I, x1, r1, RI, p1⟩ => ?_) fun _ _ _ z => z⟩
  have q1 := q.mono r x1
  refine ⟨fun i mm σ2 H2 => ∃ m2 ρ2 h2, Ext m1 H1 m2 H2 ∧ HR S m2 H2 h2 ∧ ER S m2 H2 ρ2 σ2 ∧ PoS S (forLoop I.nxt (forBody t g1) mm i ρ2 h2) m2 H2 W D, ⟨I.fuel, m1, ρ, h1, Ext.refl _ _, r1, q1, p1⟩, ?_⟩
  rintro i mm σ2 H2 ⟨m2, ρ2, h2, x2, r2, q2, p2⟩
  obtain ⟨RI1, RI2⟩ := RI m2 H2 h2 i x2 r2
  cases en : I.nxt h2 i with
  | none =>
    cases mm with
    | zero => unfold forLoop at p2; rw [en] at p2; exact False.elim p2
    | succ mm => unfold forLoop at p2; rw [en] at p2; exact False.elim p2
  | some o =>
    cases o with
    | none =>
      refine .inl ⟨RI2 en, ?_⟩
      cases mm with
      | zero => unfold forLoop at p2; rw [en] at p2; exact p2 m2 H2 σ2 (Ext.refl _ _) r2 q2
      | succ mm => unfold forLoop at p2; rw [en] at p2; exact p2 m2 H2 σ2 (Ext.refl _ _) r2 q2
    | some x =>
      obtain ⟨G, Y⟩ := RI1 x en
      cases mm with
      | zero => unfold forLoop at p2; rw [en] at p2; exact False.elim p2
      | succ mm =>
        unfold forLoop at p2
        rw [en] at p2
        dsimp only at p2
        refine .inr ⟨G, fun σ3 H3 => ∃ m3 ρ3 h3, Ext m1 H1 m3 H3 ∧ HR S m3 H3 h3 ∧ ER S m3 H3 ρ3 σ3 ∧ PoS S (forLoop I.nxt (forBody t g1) mm (i + 1) ρ3 h3) m3 H3 W D, fun σ3 H3 z => ⟨mm, Nat.lt_succ_self _, z⟩, fun v H3 y => ?_⟩
        obtain ⟨x3, r3, v3⟩ := Y v H3 y
        have q3 := q2.mono r2 x3
        replace p2 := PoS.later x3 r3 p2
        have y3 := x2.trans r2 x3
        cases eb : bindTg t x ρ2 with
        | none =>
          have e0 : forBody t g1 x ρ2 h2 = .st := by unfold forBody; rw [eb]
          rw [e0] at p2
          exact False.elim p2
        | some ρ' =>
          have e0 : forBody t g1 x ρ2 h2 = g1 ρ' h2 := by unfold forBody; rw [eb]
          rw [e0] at p2
          refine ⟨m2, x, ρ2, ρ', h2, r3, q3, v3, eb, fun σ4 q4 _ _ => ⟨m2, ρ', h2, r3, q4, ?_⟩⟩
          revert p2
          cases g1 ρ' h2 with
          | st => exact fun p' => p'
          | ex e ρ5 h5 => exact fun p' => p'
          | ok fl h5 =>
            cases fl with
            | nx ρ5 => exact fun p' m5 H5 σ5 x5 r5 q5 => ⟨m5, ρ5, h5, y3.trans r3 x5, r5, q5, PoS.later x5 r5 p'⟩
            | ct ρ5 => exact fun p' m5 H5 σ5 x5 r5 q5 => ⟨m5, ρ5, h5, y3.trans r3 x5, r5, q5, PoS.later x5 r5 p'⟩
            | bk ρ5 => exact fun p' => p'
            | rt d => exact fun p' => p'

theorem ms_fst {o e : Expr} {fo fe : PEnv → Hh → Rs D} {i : Nat} {pos' : Pos} (hF : ClsF S) (L : FlF S) (hno : ∀ c, c ∈ S.cs → NoAttr S.K (S.cA c) (S.fN i)) (hK : X.K = S.K) (ho : PE X o (tE S fo W)) (he : PE X e (tE S fe W)) (hs : swapsWith e (some (.Attribute o (S.fN i) pos')) pos.line X.env = pure false) :
    PS X (.Assign [.Attribute o (S.fN i) pos'] e pos) (tS S (fun ρ h => (fe ρ h).toS ρ fun d h1 => (fo ρ h1).toS ρ (fstK i ρ d)) W) := by
  refine (ps_fld ho he hs).imp fun D σ H ⟨m, ρ, hh, r, q, p⟩ => ?_
  refine sE_first (k := fun ρ d h1 => (fo ρ h1).toS ρ (fstK i ρ d)) r q p fun v H1 m1 h1 d r1 q1 x1 e1 p1 => ?_
  refine sE_first (k := fun ρ => fstK i ρ d) r1 q1 p1 fun v2 H2 m2 h2 d2 r2 q2 x2 e2 p2 => ?_
  unfold fstK at p2
  split at p2 <;> try exact False.elim p2
  split at p2
  · rename_i n C fl hn
    obtain ⟨ad, dx, ws, rfl, had, e3, e4, hc⟩ := e2.ins_inv r2 hn
    split at p2
    · rename_i hz
      have hm : ad ∈ m2 := List.mem_of_getElem? had
      have hw : Ext m2 H2 m2 (upd H2 ad (.ins (S.cA C) dx (putF (S.fN i) v ws))) := Ext.write hm
      have fr : FR S m2 H2 (putFs i d fl) (putF (S.fN i) v ws) := FR.put L.inj (e1.mono r1 x2) e4
      have rw2 := r2.write (u := .ins (S.cA C) dx (putF (S.fN i) v ws)) (o := .ins C (putFs i d fl)) had ⟨hc, dx, _, upd_same, fr.mono r2 hw⟩
      exact ⟨ad, _, dx, ws, rfl, e3, hK ▸ hF.cl C hc, hK ▸ hno C hc, by rw [← FR.length e4]; omega, p2 m2 _ σ hw rw2 (q2.mono r2 hw)⟩
    · exact False.elim p2
  · exact False.elim p2
theorem ms_ixs {o i e : Expr} {fo fi fe : PEnv → Hh → Rs D} {pos' : Pos} (ho : PE X o (tE S fo W)) (hi : PE X i (tE S fi W)) (he : PE X e (tE S fe W)) (hpl : PG X (.Subscript o i pos') (gSub (tE S fo W) (tE S fi W) rSetL)) (hs : swapsWithSole [.Subscript o i pos'] e pos.line X.env = pure false) (hw : swappedStores [.Subscript o i pos'] e X.env = pure none)
    (h1 : (assignEach [.Subscript o i pos'] X.env).map (·.2) = [assign (.Subscript o i pos') X.env]) :
    PS X (.Assign [.Subscript o i pos'] e pos) (tS S (fun ρ h => (fe ρ h).toS ρ fun d h1 => (fo ρ h1).toS ρ fun x h2 => (fi ρ h2).toS ρ (ixsK ρ d x)) W) := by
  refine (ps_asg he hpl hs hw h1).imp fun D σ H ⟨m, ρ, hh, r, q, p⟩ => ?_
  refine sE_first (k := fun ρ d h1 => (fo ρ h1).toS ρ fun x h2 => (fi ρ h2).toS ρ (ixsK ρ d x)) r q p fun v H1 m1 h1 d r1 q1 x1 e1 p1 => ?_
  refine sE_first (k := fun ρ x h2 => (fi ρ h2).toS ρ (ixsK ρ d x)) r1 q1 p1 fun v2 H2 m2 h2 d2 r2 q2 x2 e2 p2 => ?_
  refine sE_first (k := fun ρ => ixsK ρ d d2) r2 q2 p2 fun v3 H3 m3 h3 d3 r3 q3 x3 e3 p3 => ?_
  unfold ixsK at p3
  split at p3 <;> try exact False.elim p3
  rename_i n k
  cases e3.int_inv
  split at p3
  · rename_i l hn
    obtain ⟨ad, vs, rfl, had, e4, e5, e6⟩ := (e2.mono r2 x3).lst_inv r3 hn
    split at p3
    · rename_i j hj
      rw [e5.length] at hj
      have hm : ad ∈ m3 := List.mem_of_getElem? had
      have hw : Ext m3 H3 m3 (upd H3 ad (.lst (vs.set j v))) := Ext.write hm
      have vr : VRs S m3 H3 (l.set j d) (vs.set j v) := VRs.set ((e1.mono r1 x2).mono r2 x3) j e5
      have rw3 := r3.write (u := .lst (vs.set j v)) (o := .lst (l.set j d)) had ⟨_, upd_same, vr.mono r3 hw, by rw [List.length_set]; exact e6⟩
      exact ⟨ad, vs, k, j, rfl, rfl, e4, hj, p3 m3 _ σ hw rw3 (q3.mono r3 hw)⟩
    · exact False.elim p3
  · exact False.elim p3
/-- a, b = x, y: two local names -/
theorem ms_par (hx0 : S.xs = []) {i j : Nat} {x y : Str} {px py pt : Pos} {kt k2 : Nat} {pt2 : Pos} (hc : X.calm = true) (hN : X.N.Nodup) (hi : X.N[i]? = some x) (hj : X.N[j]? = some y) (hij : i ≠ j)
    (hx : X.env.scope.names.lookup x = some .local) (hy : X.env.scope.names.lookup y = some .local) (ha : PA X [a, b] (tAa S fs W))
    (hw : swappedStores [.Tuple [.Name x px, .Name y py] kt pt] (.Tuple [a, b] k2 pt2) X.env = pure (some [x, y])) :
    PS X (.Assign [.Tuple [.Name x px, .Name y py] kt pt] (.Tuple [a, b] k2 pt2) pos) (tS S (fun ρ h => ((fs ρ h).bind tupK).toS ρ (asgK (.tp (.cons (.nm i) (.cons (.nm j) .nil))) ρ)) W) := by
  refine (ps_par hc hN hi hj hij hx hy ha hw rfl).imp fun D σ H ⟨m, ρ, hh, r, q, p⟩ => ?_
  have p' : PoS S ((fs ρ hh).toS ρ fun ds h1 => (tupK ds h1).toS ρ (asgK (.tp (.cons (.nm i) (.cons (.nm j) .nil))) ρ)) m H W D := by
    dsimp only at p
    revert p
    cases fs ρ hh <;> exact fun p => p
  refine sA_first (k := fun ρ ds h1 => (tupK ds h1).toS ρ (asgK (.tp (.cons (.nm i) (.cons (.nm j) .nil))) ρ)) r q p' fun vs H1 m1 h1 ds r1 q1 x1 e1 p1 => ?_
  unfold tupK at p1
  split at p1
  · have p2 : PoS S (asgK (.tp (.cons (.nm i) (.cons (.nm j) .nil))) ρ (.tup ds) h1) m1 H1 W D := p1
    unfold asgK at p2
    split at p2
    · rename_i ρ' eb
      match ds, e1, eb with
      | [], e1, eb => simp [bindTg, bindTgs] at eb
      | [d], e1, eb =>
        simp only [bindTg, bindTgs] at eb
        split at eb <;> simp at eb
      | [d1, d2], e1, eb =>
        obtain ⟨v, w, rfl, g1, g2⟩ := e1.two_inv
        refine ⟨v, w, rfl, p2 m1 H1 _ (Ext.refl _ _) r1 ?_⟩
        simp only [bindTg, bindTgs] at eb
        split at eb
        · simp only [Option.bind_some] at eb
          split at eb
          · simp only [Option.bind_some, Option.some.injEq] at eb
            subst eb
            exact (q1.set i (by rw [hx0]; simp) g1).set j (by rw [hx0]; simp) g2
          · simp at eb
        · simp at eb
      | d1 :: d2 :: d3 :: ds, e1, eb =>
        simp only [bindTg, bindTgs] at eb
        split at eb
        · simp only [Option.bind_some] at eb
          split at eb <;> simp [bindTgs] at eb
        · simp at eb
    · exact False.elim p2
  · exact False.elim p1
end
end MP

set_option Elab.async false
set_option linter.all false
set_option maxRecDepth 100000
set_option autoImplicit false
set_option maxHeartbeats 1000000
/-! Mp10: list comprehensions as expressions. -/
namespace MP
open PySem PySem.Spec L2
section
variable {X : Cx} {S : Sta} {f g : PEnv → Hh → Rs D} {W : WX} {pos spos : Pos}
theorem mts_nil : PTs X [] (tTt S (fun _ h => .ok true h) W) := ⟨fun pins s σ H Q I ⟨m, ρ, hh, r, q, p⟩ => pts_nil.run pins s σ H Q I (Po.done (R := RB) p r rfl)⟩
theorem mts_one {c : Expr} {f' : PEnv → Hh → Rs Bool} (h : PT X c (tTt S f' W)) : PTs X [c] (tTt S f' W) := pts_one h
theorem me_lc (hx0 : S.xs = []) {elt tg iter : Expr} {ifs : List Expr} {scope : Scope} {own : List (Str × Nat)} {t : Tg} {fi : PEnv → Hh → Rs Itr} {fc : PEnv → Hh → Rs Bool} {fe : PEnv → Hh → Rs D} (hc : X.calm = true) (hN : X.N.Nodup) (hi : PI X tg iter (tI S fi W)) (ok : BlkOk X.N X.env.scope scope own)
    (ho : ∀ i ∈ tgS t, i ∈ own.map (·.2))
    (hg : ∀ (s : Shared) (H : Hp) (C : Addr) (cl : List (Str × Addr)) (fp : List Addr), PG (X.blk s H scope (compEnvC scope cl C X.env) fp) tg (tG S t)) (ht : ∀ (s : Shared) (H : Hp) (C : Addr) (cl : List (Str × Addr)) (fp : List Addr), PTs (X.blk s H scope (compEnvC scope cl C X.env) fp) ifs (tTt S fc W0))
    (he : ∀ (s : Shared) (H : Hp) (C : Addr) (cl : List (Str × Addr)) (fp : List Addr), PE (X.blk s H scope (compEnvC scope cl C X.env) fp) elt (tE S fe W0)) (hs : ∀ x, foldedSetIterable iter X.env x = pure x) :
    PE X (.ListComp elt [⟨tg, iter, ifs, 0⟩] scope pos) (tE S (fun ρ h => (fi ρ h).bind fun J h1 => lcLoop J.nxt (lcTurn t (own.map (·.2)) fc fe ρ) J.fuel 0 [] h1) W) :=
  (pe_lc hc hN hi ok hg ht he hs).imp fun σ H Q h => tLc_of hx0 ho h
theorem gName_of (hx0 : S.xs = []) {i : Nat} {v : V} {σ : L2.St} {H : Hp} {Q : L2.St → Hp → Prop} (h : tG S (.nm i) v σ H Q) : gName i v σ H Q := by
  obtain ⟨m, d, ρ, ρ', h, r, e, vr, eb, k⟩ := h
  simp only [bindTg] at eb
  split at eb
  · cases eb
    exact k _ (e.set i (by rw [hx0]; simp) vr) (fun j hj => by rw [List.getElem?_set_ne (by intro z; exact hj (by simp [tgS, z]))]) (by simp)
  · cases eb
theorem ms_setLc (hx0 : S.xs = []) {i : Nat} {y : Str} {py : Pos} {elt tg iter : Expr} {ifs : List Expr} {scope : Scope} {own : List (Str × Nat)} {t : Tg} {fi : PEnv → Hh → Rs Itr} {fc : PEnv → Hh → Rs Bool} {fe : PEnv → Hh → Rs D} (hc : X.calm = true) (hN : X.N.Nodup) (hy : X.N[i]? = some y) (hyl : X.env.scope.names.lookup y = some .local)
    (hsw : swapsWith (.ListComp elt [⟨tg, iter, ifs, 0⟩] scope pos) (some (.Name y py)) spos.line X.env = pure true) (hi : PI X tg iter (tI S fi W)) (ok : BlkOk X.N X.env.scope scope own)
    (ho : ∀ i ∈ tgS t, i ∈ own.map (·.2))
    (hg : ∀ (s : Shared) (H : Hp) (C : Addr) (cl : List (Str × Addr)) (fp : List Addr), PG (X.blk s H scope (compEnvC scope cl C X.env) fp) tg (tG S t)) (ht : ∀ (s : Shared) (H : Hp) (C : Addr) (cl : List (Str × Addr)) (fp : List Addr), PTs (X.blk s H scope (compEnvC scope cl C X.env) fp) ifs (tTt S fc W0))
    (he : ∀ (s : Shared) (H : Hp) (C : Addr) (cl : List (Str × Addr)) (fp : List Addr), PE (X.blk s H scope (compEnvC scope cl C X.env) fp) elt (tE S fe W0)) (hs : ∀ x, foldedSetIterable iter X.env x = pure x) :
    PS X (.Assign [.Name y py] (.ListComp elt [⟨tg, iter, ifs, 0⟩] scope pos) spos) (tS S (fun ρ h => (((fi ρ h).bind fun J h1 => lcLoop J.nxt (lcTurn t (own.map (·.2)) fc fe ρ) J.fuel 0 [] h1)).toS ρ (asgK (.nm i) ρ)) W) := by
  refine (ps_setLc hc hN hy hyl hsw hi ok hg ht he hs).imp fun D σ H h => ?_
  have h' := asg_of (f := fun ρ h => (fi ρ h).bind fun J h1 => lcLoop J.nxt (lcTurn t (own.map (·.2)) fc fe ρ) J.fuel 0 [] h1) h
  obtain ⟨m, ρ, hh, r, q, p⟩ := h'
  exact tLc_of hx0 ho ⟨m, ρ, hh, r, q, p.imp (fun b H' z => gName_of hx0 z) fun _ _ _ z => z⟩
end
end MP

set_option Elab.async false
set_option linter.all false
set_option maxRecDepth 100000
set_option autoImplicit false
set_option maxHeartbeats 4000000
/-! Mp11: own exception classes over any of the built-in ones, whose __init__ calls the base's and stores its fields. -/
namespace MP
open PySem PySem.Spec PyProof.Rows L2

/-- own classes, then the built-in base's chain -/
def refsT (t : List Value) : List Value → Bool
  | .ref _ :: r => refsT t r
  | l => l == t
theorem refsT_cases (t : List Value) : ∀ l : List Value, refsT t l = true → (∃ c r, l = .ref c :: r ∧ refsT t r = true) ∨ l = t
  | [], e => .inr (beq_iff_eq.mp e)
  | .ref c :: r, e => .inl ⟨c, r, rfl, e⟩
  | .none :: _, e => .inr (beq_iff_eq.mp e)
  | .ellipsis :: _, e => .inr (beq_iff_eq.mp e)
  | .notImplemented :: _, e => .inr (beq_iff_eq.mp e)
  | .bool _ :: _, e => .inr (beq_iff_eq.mp e)
  | .int _ _ :: _, e => .inr (beq_iff_eq.mp e)
  | .float _ _ :: _, e => .inr (beq_iff_eq.mp e)
  | .str _ _ :: _, e => .inr (beq_iff_eq.mp e)
  | .bytes _ _ :: _, e => .inr (beq_iff_eq.mp e)
  | .type _ :: _, e => .inr (beq_iff_eq.mp e)
  | .builtin _ :: _, e => .inr (beq_iff_eq.mp e)
theorem refsT_has (t : List Value) (X : String) : ∀ l : List Value, refsT t l = true → l.contains (.type X) = t.contains (.type X) := by
  intro l
  induction l with
  | nil => intro e; rcases refsT_cases t [] e with ⟨_, _, q, _⟩ | q; (cases q); rw [q]
  | cons a r ih =>
    intro e
    rcases refsT_cases t (a :: r) e with ⟨c, r', q, h⟩ | q
    · obtain ⟨rfl, rfl⟩ := List.cons.inj q
      rw [List.contains_cons, ih h]; rfl
    · rw [q]
theorem refsT_pass (t : List Value) (self : Value) (ht : refuseLoop self "__setattr__" t = pure ()) : ∀ l : List Value, refsT t l = true → refuseLoop self "__setattr__" l = pure () := by
  intro l
  induction l with
  | nil => intro e; rcases refsT_cases t [] e with ⟨_, _, q, _⟩ | q; (cases q); rw [q]; exact ht
  | cons a r ih =>
    intro e
    rcases refsT_cases t (a :: r) e with ⟨c, r', q, h⟩ | q
    · obtain ⟨rfl, rfl⟩ := List.cons.inj q
      rw [refuseLoop_ref]; exact ih h
    · rw [q]; exact ht

/-- what the written part says of an own exception class at C -/
structure XcC (K : PySem.W.Frag) (C : Addr) (B newId initId : String) (bmB : List Value) : Prop where
  F : ExcBaseFacts B newId initId bmB
  SF : StoreFacts B bmB "object.__setattr__" "object"
  cls : ∃ nm q N bs bm sn sub ab col dd k0 k1 k2 k3 k5, K.lookup C = some (excClassObj nm q C N bs bm true sn sub ab col dd k0 k1 k2 k3 k5 newId) ∧ refsT bmB bm = true
  sa : PySem.W.findIn K (.ref C) "__setattr__" = some (some (.builtin "object.__setattr__"))
  exC : PySem.W.subIn K (.ref C) (.type "BaseException") = some true
  tyC : PySem.W.typeIn K (.ref C) = some (.type "type")
  kC : PySem.W.keepIn K (.ref C) = true

section
open Builtin Builtin.ObjectAttr
variable {prog : Program} {w : World} {A : Around} {E : Value → Shared → Prop} {R : Result → Shared → Prop} {hp : Heap} {g : Array GenState} {d : Drawn} {t : Nat} {os : OsState}
theorem obj_type {K : PySem.W.Frag} {x C : Addr} {ox : Obj} {od : Option Obj} {cd : ClassData} {M : Model} (X : K.In hp) (I : PySem.W.InstAt hp x ox C od) (hcd : PySem.W.clsIn K C = some cd) (hob : cd.mro.contains (.type "object") = true) :
    PySem.W.Looks M hp (isInstance (.ref x) (.type "object")) true := by
  have ne : cd.mro.isEmpty = false := by
    cases e : cd.mro with
    | nil => rw [e] at hob; cases hob
    | cons _ _ => rfl
  exact I.type.andThen (PySem.W.looks_mroIn X (by unfold PySem.W.mroIn; rw [hcd, Option.bind_some, if_neg (by rw [ne]; decide), hob]))
/-- self.name = v on an exception that has no dict yet -/
theorem xosa_new {K : PySem.W.Frag} {name : Str} {tk : Tok} {v : Value} {x C : Addr} {fv : Array Value} {cd : ClassData}
    (X : K.In hp) (hx : hp.get? x = some { cls := .ref C, data := .fields fv }) (hcd : PySem.W.clsIn K C = some cd) (hob : cd.mro.contains (.type "object") = true) (hps : refuseLoop (.ref x) "__setattr__" cd.mro = pure ()) (hh : cd.hasDict = true) (ha : PySem.W.findIn K (.ref C) name = some none)
    (hq : ∀ h' tk' dx, (∀ b o, b ≠ x → hp.get? b = some o → h'.get? b = some o) → hp.objs.size ≤ dx → dx ≠ x → h'.get? x = some { cls := .ref C, dict := some dx, data := .fields fv } →
      h'.Ns1 dx (fun y => if y = name then some v else none) → R (.ok (.ret .none)) ⟨h', g, d, tk', os⟩) :
    codeAny (model prog w) A (.call (.builtin "object.__setattr__") ⟨[.ref x, .str name tk, v], []⟩) R ⟨hp, g, d, t, os⟩ := by
  have I : PySem.W.InstAt hp x { cls := .ref C, data := .fields fv } C none := ⟨hx, rfl, rfl, trivial⟩
  have SF := PySem.F.store_object
  have hxs : x ≠ hp.objs.size := Nat.ne_of_lt (Heap.lt_size hx)
  refine codeAny_call_builtin SF.slot.plain SF.entry (@PySem.W.check_slot (model prog w) _ _ ⟨hp, g, d, t, os⟩ "object.__setattr__" "object" "__setattr__" (.ref x) [.str name tk, v] [] _ SF.kind SF.split (obj_type X I hcd hob) (SF.args (.ref x) (.str name tk) v) ?_)
  have hmr : PySem.W.Looks (model prog w) hp (mroOf (.ref C)) cd.mro := (PySem.W.looks_clsIn X hcd).andThen .now
  have L3 : PySem.W.Looks (model prog w) hp (storeTaker? none) none := .now
  have hcls : PySem.W.Looks (model prog w) hp (classData C) cd := PySem.W.looks_clsIn X hcd
  rw [PySem.W.osa_eq, refuse_eq]
  refine wpAny_bind (wpAny_bind (I.type.at (wpAny_bind (hmr.at ?_))))
  rw [hps]
  refine wpAny_pure (wpAny_bind (I.type.at (wpAny_bind ((PySem.W.looks_findIn X ha).at (wpAny_bind (L3.at ?_))))))
  show wpAny _ _ (storeInOwnDict (.ref x) (.ref C) (.str name tk) name v false) _ _ _
  obtain ⟨nm, bs, mro, ns, qn, hd, sn, sb, ab, col, del⟩ := cd
  dsimp only at hh
  subst hh
  unfold storeInOwnDict ownDictForStores
  repeat (first | with_reducible refine PySem.HandSPX.store_in_new ?_ ?_ | with_reducible refine wpAny_loadPart_at hx ?_ | with_reducible refine hcls.at ?_ | wp_step)
  · exact ⟨_, #[], _, (Heap.get?_update_ne _ _ _ _ hxs.symm).trans (Heap.get?_push_at rfl rfl), rfl, fun e he => absurd he (by simp), fun _ => rfl⟩
  · intro h' tk' hn' hs
    have hx₁ : (hp.push { cls := .type "dict", data := .dict #[] }).get? x = some { cls := .ref C, data := .fields fv } := Heap.get?_push_of_some _ hx
    refine hq h' tk' hp.objs.size (fun b o hb ho => ?_) (Nat.le_refl _) hxs.symm ?_ hn'
    · exact (hs.2 b (Nat.ne_of_lt (Heap.lt_size ho))).trans ((Heap.get?_update_ne _ _ _ _ hb).trans (Heap.get?_push_of_some _ ho))
    · exact (hs.2 x hxs).trans (Heap.get?_update_self _ hx₁ rfl)
/-- a further field -/
theorem xosa_old {K : PySem.W.Frag} {name : Str} {tk : Tok} {v : Value} {x C dx : Addr} {fv : Array Value} {cd : ClassData} {m0 : Str → Option Value} {nl : List Str}
    (X : K.In hp) (hx : hp.get? x = some { cls := .ref C, dict := some dx, data := .fields fv }) (hns : hp.Ns1 dx m0) (hw : Within m0 nl) (hz : nl.length ≤ 1000) (hcd : PySem.W.clsIn K C = some cd) (hob : cd.mro.contains (.type "object") = true) (hps : refuseLoop (.ref x) "__setattr__" cd.mro = pure ()) (hh : cd.hasDict = true)
    (ha : PySem.W.findIn K (.ref C) name = some none)
    (hq : ∀ h' tk', (∀ b o, b ≠ dx → hp.get? b = some o → h'.get? b = some o) → h'.Ns1 dx (fun y => if y = name then some v else m0 y) → R (.ok (.ret .none)) ⟨h', g, d, tk', os⟩) :
    codeAny (model prog w) A (.call (.builtin "object.__setattr__") ⟨[.ref x, .str name tk, v], []⟩) R ⟨hp, g, d, t, os⟩ := by
  obtain ⟨oD, esD, epD, hoD, hdD, _⟩ := hns.count hw
  have I : PySem.W.InstAt hp x { cls := .ref C, dict := some dx, data := .fields fv } C (some oD) := ⟨hx, rfl, rfl, hoD⟩
  have SF := PySem.F.store_object
  refine codeAny_call_builtin SF.slot.plain SF.entry (@PySem.W.check_slot (model prog w) _ _ ⟨hp, g, d, t, os⟩ "object.__setattr__" "object" "__setattr__" (.ref x) [.str name tk, v] [] _ SF.kind SF.split (obj_type X I hcd hob) (SF.args (.ref x) (.str name tk) v) ?_)
  have hmr : PySem.W.Looks (model prog w) hp (mroOf (.ref C)) cd.mro := (PySem.W.looks_clsIn X hcd).andThen .now
  have L3 : PySem.W.Looks (model prog w) hp (storeTaker? none) none := .now
  have hcls : PySem.W.Looks (model prog w) hp (classData C) cd := PySem.W.looks_clsIn X hcd
  rw [PySem.W.osa_eq, refuse_eq]
  refine wpAny_bind (wpAny_bind (I.type.at (wpAny_bind (hmr.at ?_))))
  rw [hps]
  refine wpAny_pure (wpAny_bind (I.type.at (wpAny_bind ((PySem.W.looks_findIn X ha).at (wpAny_bind (L3.at ?_))))))
  show wpAny _ _ (storeInOwnDict (.ref x) (.ref C) (.str name tk) name v false) _ _ _
  obtain ⟨nm, bs, mro, ns, qn, hd, sn, sb, ab, col, del⟩ := cd
  dsimp only at hh
  subst hh
  unfold storeInOwnDict ownDictForStores
  repeat (first | with_reducible refine PySem.OEX.store_in_old hns hw hz ?_ | with_reducible refine wpAny_loadPart_at hx ?_ | with_reducible refine hcls.at ?_ | wp_step)
  intro h' tk' hn' hs
  exact hq h' tk' (fun b o hb ho => (hs.2 b hb).trans ho) hn'
end

section
variable {X : Cx} {pins : List (Addr × Obj)} {σ : L2.St} {H : Hp} {s : Shared} {a C dx : Addr} {f : Str} {y : V} {u : Value} {fs : List (Str × V)} {Q : Unit → Shared → Prop} {E : Value → Shared → Prop} {A : Around} {B newId initId : String} {bmB : List Value}
theorem xost_new (T : XcC X.K C B newId initId bmB) (I : Inv X pins σ H s) (e : H a = some (exo a C none)) (hno : PySem.W.findIn X.K (.ref C) f = some none) (ry : RelV y u)
    (h : ∀ dx s', H dx = none → dx ≠ a → Inv X pins σ (upd (upd H dx (exd dx [(f, y)])) a (exo a C (some dx))) s' → Q () s') : wpAny (model X.prog X.w) A (setAttr (.ref a) f u) Q E s := by
  obtain ⟨nm, q, N, bs, bm, sn, sub, ab, col, dd, k0, k1, k2, k3, k5, hC, hbm⟩ := T.cls
  have hcl : PySem.W.clsIn X.K C = some { name := nm, bases := bs, mro := .ref C :: bm, ns := N, qualname := q, hasDict := true, slotNames := sn, subclasses := sub, abstract := ab, collection := col, hasDel := false } := by unfold PySem.W.clsIn; rw [hC] <;> rfl
  obtain ⟨t1, ho⟩ := exo_at I.hok e
  obtain ⟨hp, g, d, t, os⟩ := s
  have hob : (Value.ref C :: bm).contains (.type "object") = true := by rw [List.contains_cons, refsT_has _ _ _ hbm, T.SF.hasOwner, Bool.or_true]
  have hps : refuseLoop (.ref a) "__setattr__" (Value.ref C :: bm) = pure () := by rw [refuseLoop_ref]; exact refsT_pass _ _ (T.SF.passes _) _ hbm
  refine PySem.W.set_plain I.kIn (ox := { cls := .ref C, dict := none, data := .fields #[.ref t1, .none, .none, .none, .bool false, .none] }) (od := none) ⟨ho, rfl, rfl, trivial⟩ T.sa ?_
  refine xosa_new I.kIn ho hcl hob hps rfl hno (fun h' tk' dx k dn dne hx hn => ?_)
  have hnd : H dx = none := I.hok.fresh dn
  have nd : ∀ {b : Addr} {o : Obj}, hp.get? b = some o → b ≠ dx := fun {b o} q => Nat.ne_of_lt (Nat.lt_of_lt_of_le (Heap.lt_size q) dn)
  have na : ∀ {b : Addr}, H b = none → b ≠ a := fun {b} n z => by
    rw [z, e] at n
    cases n
  have Un1 : Un X.fs [] H (upd (upd H dx (exd dx [(f, y)])) a (exo a C (some dx))) hp h' := {
    keep := fun b o q n _ _ => k b o (na n) q
    slot := fun b o q n _ _ => ⟨o.slots, k b o (na n) q⟩
    free := fun b o q n _ => by rw [upd_ne (na n), upd_ne (nd q)]; exact n
    there := fun b o q _ => by
      by_cases hb : b = a
      · exact ⟨_, by rw [hb]; exact hx⟩
      · exact ⟨o, k b o hb q⟩
    tups := fun b xs q => by rw [upd_ne (at_ne e q exo_tup), upd_ne (ne_of_none q hnd)]; exact q
    frzs := fun b o v q => by rw [upd_ne (at_ne e q exo_frz), upd_ne (ne_of_none q hnd)]; exact q
    tbls := fun b ps q => ⟨#[], by rw [upd_ne (at_ne e q exo_tbl), upd_ne (ne_of_none q hnd), q]; simp⟩ }
  refine h dx _ hnd dne (I.un (t' := tk') Un1 fun b o q => ?_)
  by_cases hb : b = a
  · subst hb
    rw [upd_same] at q
    cases q
    exact exo_ok hx
  · rw [upd_ne hb] at q
    by_cases hd : b = dx
    · subst hd
      rw [upd_same] at q
      cases q
      exact exd_ok hn (relO_put (fs := []) ry fun g => True.intro)
    · rw [upd_ne hd] at q
      exact (I.hok b o q).stay (fun c v hc z => k c v (by
          rcases hc with hc | hc
          · rw [hc]
            exact hb
          · exact at_ne e hc exo_own) z)
        (fun c hc => by rw [upd_ne (at_ne e hc exo_own), upd_ne (ne_of_none hc hnd)]; exact hc) (fun c xs hc => by rw [upd_ne (at_ne e hc exo_tup), upd_ne (ne_of_none hc hnd)]; exact hc)
theorem xost_old (T : XcC X.K C B newId initId bmB) (I : Inv X pins σ H s) (e : H a = some (exo a C (some dx))) (ed : H dx = some (exd dx fs)) (hl : fs.length ≤ 900) (hno : PySem.W.findIn X.K (.ref C) f = some none) (ry : RelV y u)
    (h : ∀ s', Inv X pins σ (upd H dx (exd dx ((f, y) :: fs))) s' → Q () s') : wpAny (model X.prog X.w) A (setAttr (.ref a) f u) Q E s := by
  obtain ⟨nm, q, N, bs, bm, sn, sub, ab, col, dd, k0, k1, k2, k3, k5, hC, hbm⟩ := T.cls
  have hcl : PySem.W.clsIn X.K C = some { name := nm, bases := bs, mro := .ref C :: bm, ns := N, qualname := q, hasDict := true, slotNames := sn, subclasses := sub, abstract := ab, collection := col, hasDel := false } := by unfold PySem.W.clsIn; rw [hC] <;> rfl
  obtain ⟨t1, ho⟩ := exo_at I.hok e
  obtain ⟨mA, hns, rel⟩ := exd_at I.hok ed
  have hw := within_of rel
  obtain ⟨hp, g, d, t, os⟩ := s
  obtain ⟨oD, _, _, hoD, _, _⟩ := hns.count hw
  have hob : (Value.ref C :: bm).contains (.type "object") = true := by rw [List.contains_cons, refsT_has _ _ _ hbm, T.SF.hasOwner, Bool.or_true]
  have hps : refuseLoop (.ref a) "__setattr__" (Value.ref C :: bm) = pure () := by rw [refuseLoop_ref]; exact refsT_pass _ _ (T.SF.passes _) _ hbm
  refine PySem.W.set_plain I.kIn (ox := { cls := .ref C, dict := some dx, data := .fields #[.ref t1, .none, .none, .none, .bool false, .none] }) (od := some oD) ⟨ho, rfl, rfl, hoD⟩ T.sa ?_
  refine xosa_old I.kIn ho hns hw (by rw [List.length_map]; omega) hcl hob hps rfl hno (fun h' tk' k hn => ?_)
  have hd : ∃ o, h'.get? dx = some o := by
    obtain ⟨o, _, _, e', _⟩ := hn
    exact ⟨o, e'⟩
  exact h _ (I.write (t' := tk') (x := dx) (e := dx) (o := exd dx ((f, y) :: fs)) (by rw [ed]; exact True.intro) (.inl rfl) k hd (exd_ok hn (relO_put ry rel)))
/-- the base's __init__(self, ..): nothing of it is told -/
theorem xinit_ok {us : List Value} {Q : Value → Shared → Prop} (T : XcC X.K C B newId initId bmB) (I : Inv X pins σ H s) (e : H a = some (exo a C none)) (hl : us.length ≤ sizeLine) (h : ∀ s', Inv X pins σ H s' → Q .none s') :
    wpAny (model X.prog X.w) A (call (.builtin initId) (.ref a :: us)) Q E s := by
  obtain ⟨nm, q, N, bs, bm, sn, sub, ab, col, dd, k0, k1, k2, k3, k5, hC, hbm⟩ := T.cls
  obtain ⟨t1, ho⟩ := exo_at I.hok e
  obtain ⟨hp, g, d, t, os⟩ := s
  refine wpAny_call (PySem.HandSPX.init_base T.F (fun Y => refsT_has _ Y _ hbm) (I.kIn _ _ hC) ho hl fun h' t2 k hx => ?_)
  have J := I.write (t' := t) (x := a) (e := a) (o := exo a C none) (by rw [e]; exact True.intro) (.inl rfl) k ⟨_, hx⟩ (exo_ok hx)
  have eu : upd H a (exo a C none) = H := by
    funext b
    by_cases hb : b = a
    · rw [hb, upd_same, e]
    · rw [upd_ne hb]
  rw [eu] at J
  exact h _ J
end
end MP

set_option Elab.async false
set_option linter.all false
set_option maxRecDepth 100000
set_option autoImplicit false
set_option maxHeartbeats 4000000
/-! Mp12: an own exception's __init__ as a def; the exception made and raised. -/
namespace MP
open PySem PySem.Spec PyProof.Rows L2

/-- where the name x leads: to a class whose __init__ is the built-in one -/
def IniAt (K : PySem.W.Frag) (mg : Str → Option Value) (x : Str) (initId : String) : Prop :=
  (∃ R mc, mg x = some (.ref R) ∧ PySem.W.specialIn K (.ref R) "__getattribute__" = some (some (.builtin "type.__getattribute__")) ∧ PySem.W.readsIn K R mc = true ∧ PySem.W.findCls K (.ref R) mc "__init__" = some (.val (.builtin initId))) ∨
  ∃ T, mg x = none ∧ bootBuiltins x = some (.type T) ∧ x ≠ "__name__" ∧ typeOf (.type T) = pure (.type "type") ∧ Manifest.isStub T = false ∧ PySem.W.findCls K (.type T) (.type "type") "__init__" = some (.val (.builtin initId))
/-- x.__init__(self, ..) -/
def tXI (K : PySem.W.Frag) (initId : String) (ta : TA) : TE := fun σ H Q => ta σ H fun vs H1 => ∃ (a C : Addr) (ws : List V) (B newId : String) (bmB : List Value), vs = .ref a :: ws ∧ ws.length ≤ 1000 ∧ XcC K C B newId initId bmB ∧ H1 a = some (exo a C none) ∧ Q .non H1
/-- self.f = e -/
def tXst (K : PySem.W.Frag) (f : Str) (to te : TE) : TS := fun D σ H => te σ H fun y H1 => to σ H1 fun x H2 => ∃ (a C : Addr) (B newId initId : String) (bmB : List Value), x = .ref a ∧ XcC K C B newId initId bmB ∧ PySem.W.findIn K (.ref C) f = some none ∧
  ((H2 a = some (exo a C none) ∧ ∀ dx, H2 dx = none → dx ≠ a → D.nx σ (upd (upd H2 dx (exd dx [(f, y)])) a (exo a C (some dx)))) ∨
    ∃ (dx : Addr) (fs : List (Str × V)), H2 a = some (exo a C (some dx)) ∧ H2 dx = some (exd dx fs) ∧ fs.length ≤ 900 ∧ D.nx σ (upd H2 dx (exd dx ((f, y) :: fs))))
section
variable {X : Cx} {o e : Expr} {es : List Expr} {to te : TE} {ta : TA} {f x : Str} {p p' p1 p2 pos : Pos} {initId : String}
theorem pe_xinit (hg : Gl X x) (hI : IniAt X.K X.mg x initId) (hdb : (x == ("__debug__" : Str)) = false) (hh : PySem.W.handedIn (.builtin initId) = true) (ha : PA X (e :: es) ta)
    (he : starEach (e :: es) X.env = (false, eval e X.env) :: starEach es X.env) (hpl : (backTo pos (starEach es X.env)).any (·.1) = false)
    (hb : attributeBase (.Name x p1) "__init__" X.env (eval (.Name x p1) X.env) = eval (.Name x p1) X.env) (hl : (p2.endLine == pos.line) = true) (hf : methodCallForm ((e :: es).length + ([] : List Keyword).length) (backTo pos (starEach (e :: es) X.env)) (backToKw pos (keywordEach [] X.env)) = true) :
    PE X (.Call (.Attribute (.Name x p1) "__init__" p2) (e :: es) [] pos) (tXI X.K initId ta) := by
  refine ⟨fun pins s σ H Q I h => ?_⟩
  refine PySem.W.methodCall_KW ?_ (call_tree hb hl hf)
  have go : ∀ {s'}, Inv X pins σ H s' → wpAny (model X.prog X.w) X.A (callWith pos (Value.builtin initId) [] (backTo pos (starEach (e :: es) X.env)) []) (EP X pins σ Q) X.xe s' := fun {s'} I' => by
    refine PyProof.Rows.callWith_method1 (thn (ha.run pos pins _ σ H _ I' h) fun us s1 ⟨vs, H1, I1, r1, a, C, ws, B, newId, bmB, ev, hl, T, ea, q⟩ => ?_) he hpl
    subst ev
    cases r1 with
    | @cons _ u0 _ ur ra rw' =>
      obtain rfl : u0 = Value.ref a := ra
      have hlen : ur.length ≤ sizeLine := by
        rw [← Paired.length rw', sizeLine_eq]
        omega
      exact xinit_ok T I1 ea hlen fun s' J => ⟨.non, H1, J, rfl, q⟩
  rcases hI with ⟨R, mc, hm, hsp, hr, hfc⟩ | ⟨T, hm, hv, hn, ht, hs, hfc⟩
  · refine ld_glob I hg hm ?_ hdb
    exact PySem.W.method_cls I.kIn hsp (PySem.W.cls_value I.kIn hr hfc hh (go (I.tok _)))
  · refine ld_blt I hg hm hv ?_ hn hdb
    obtain ⟨m, fr⟩ := I.fr
    exact PySem.W.method_type fr I.ok.mod.kin ht hs hfc hh (go (I.tok _))
theorem ps_xst (ho : PE X o to) (he : PE X e te) (hs : swapsWith e (some (.Attribute o f p')) pos.line X.env = pure false) : PS X (.Assign [.Attribute o f p'] e pos) (tXst X.K f to te) := by
  refine ⟨fun pins s σ H D I h => ?_⟩
  refine plainObj_wpAny_Assign_Attribute (thn (he.run pins s σ H _ I h) fun v s1 ⟨y, H1, I1, r1, q1⟩ => thn (ho.run pins s1 σ H1 _ I1 q1) fun u s2 ⟨x, H2, I2, r2, a, C, B, newId, initId, bmB, ex, T, hno, q⟩ => ?_) hs
  subst ex
  obtain rfl : u = Value.ref a := r2
  rcases q with ⟨ea, q⟩ | ⟨dx, fs, ea, ed, hl, q⟩
  · exact xost_new T I2 ea hno r1 fun dx s' n ne J => ⟨σ, _, J, q dx n ne⟩
  · exact xost_old T I2 ea ed hl hno r1 fun s' J => ⟨σ, _, J, q⟩
end

/-- an own exception's __init__: the fields' store -/
def spXi (C : Addr) (fls : List Str) : Sp := fun vs H Q _ => ∃ a ws, vs = .ref a :: ws ∧ ws.length = fls.length ∧ H a = some (exo a C none) ∧ ∀ dx, H dx = none → dx ≠ a → Q .non (upd (upd H dx (exd dx (fls.zip ws).reverse)) a (exo a C (some dx)))
section
variable {P : Program} {w : World} {K : PySem.W.Frag} {mg : Str → Option Value} {base : Heap} {st : Stmt} {fI C : Addr} {fd : FuncData} {q x f f2 y y2 txt : Str} {j : Nat} {B newId initId : String} {bmB : List Value} {p1 p2 p3 p4 p5 p6 p7 p8 p9 p10 p11 p12 p13 p14 : Pos}
theorem xk_start2 (v : V) (ws : List V) (y : Str) : start ["self", y] (v :: ws) = L2.start ["self", y] (v :: ws) := rfl
theorem ok_xi1 (F : Fun K "__init__" q st fI fd) (hb : defBody st = [.Expr (.Call (.Attribute (.Name x p1) "__init__" p2) [.Name "self" p3, .Constant (.str txt) j p4] [] p5) p6, .Assign [.Attribute (.Name "self" p7) f p8] (.Name y p9) p10])
    (hs : FnScope ["self", y] ["self", y] (defScope st)) (hx : (defScope st).names.lookup x = some .globalImplicit) (hself : (defScope st).names.lookup ("self" : Str) = some .local) (hy : (defScope st).names.lookup y = some .local) (hdb : (x == ("__debug__" : Str)) = false) (hdy : (y == ("__debug__" : Str)) = false) (hcy : (y == ("__classdict__" : Str)) = false)
    (hl : (p2.endLine == p5.line) = true) (T : XcC K C B newId initId bmB) (hI : IniAt K mg x initId) (hh : PySem.W.handedIn (.builtin initId) = true) (hno : PySem.W.findIn K (.ref C) f = some none) :
    FnOk P w K mg base (L2.CX P w) 2 fI fd ["self", y] (spXi C [f]) := by
  refine F.okX hs (fun vs H Q E h => ?_) fun cdv A outer s H vs Q E hr h => ?_
  · obtain ⟨a, ws, rfl, hw, _⟩ := h
    rw [List.length_cons, hw]; rfl
  · rw [hb]
    refine ⟨_, pss_cons (ps_expr (pe_xinit (X := cxOf (L2.CX P w) P w K mg base ["self", y] q (defScope st) fI cdv A outer s H E) hx hI hdb hh (pa_cons (pe_var (i := 0) rfl (.inl hself)) (pa_cons pe_str pa_nil rfl) rfl) rfl rfl rfl hl rfl) rfl)
      (pss_one (ps_xst (pe_var (i := 0) rfl (.inl hself)) (pe_var (i := 1) rfl (.inl hy) hdy hcy) rfl)), ?_⟩
    obtain ⟨a, ws, rfl, hw, ea, k⟩ := h
    match ws, hw with
    | [v], _ =>
      refine ⟨_, rfl, a, C, [.str txt], B, newId, bmB, rfl, (by show 1 ≤ 1000; omega), T, ea, ?_⟩
      exact ⟨v, rfl, .ref a, rfl, a, C, B, newId, initId, bmB, rfl, T, hno, .inl ⟨ea, fun dx hd ne => k dx hd ne⟩⟩
theorem ok_xi2 (F : Fun K "__init__" q st fI fd) (hb : defBody st = [.Expr (.Call (.Attribute (.Name x p1) "__init__" p2) [.Name "self" p3, .Constant (.str txt) j p4] [] p5) p6, .Assign [.Attribute (.Name "self" p7) f p8] (.Name y p9) p10, .Assign [.Attribute (.Name "self" p11) f2 p12] (.Name y2 p13) p14])
    (hs : FnScope ["self", y, y2] ["self", y, y2] (defScope st)) (hx : (defScope st).names.lookup x = some .globalImplicit) (hself : (defScope st).names.lookup ("self" : Str) = some .local) (hy : (defScope st).names.lookup y = some .local) (hy2 : (defScope st).names.lookup y2 = some .local) (hdb : (x == ("__debug__" : Str)) = false) (hdy : (y == ("__debug__" : Str)) = false) (hcy : (y == ("__classdict__" : Str)) = false)
    (hdy2 : (y2 == ("__debug__" : Str)) = false) (hcy2 : (y2 == ("__classdict__" : Str)) = false)
    (hl : (p2.endLine == p5.line) = true) (T : XcC K C B newId initId bmB) (hI : IniAt K mg x initId) (hh : PySem.W.handedIn (.builtin initId) = true) (hno : PySem.W.findIn K (.ref C) f = some none) (hno2 : PySem.W.findIn K (.ref C) f2 = some none) :
    FnOk P w K mg base (L2.CX P w) 2 fI fd ["self", y, y2] (spXi C [f, f2]) := by
  refine F.okX hs (fun vs H Q E h => ?_) fun cdv A outer s H vs Q E hr h => ?_
  · obtain ⟨a, ws, rfl, hw, _⟩ := h
    rw [List.length_cons, hw]; rfl
  · rw [hb]
    refine ⟨_, pss_cons (ps_expr (pe_xinit (X := cxOf (L2.CX P w) P w K mg base ["self", y, y2] q (defScope st) fI cdv A outer s H E) hx hI hdb hh (pa_cons (pe_var (i := 0) rfl (.inl hself)) (pa_cons pe_str pa_nil rfl) rfl) rfl rfl rfl hl rfl) rfl)
      (pss_cons (ps_xst (pe_var (i := 0) rfl (.inl hself)) (pe_var (i := 1) rfl (.inl hy) hdy hcy) rfl) (pss_one (ps_xst (pe_var (i := 0) rfl (.inl hself)) (pe_var (i := 2) rfl (.inl hy2) hdy2 hcy2) rfl))), ?_⟩
    obtain ⟨a, ws, rfl, hw, ea, k⟩ := h
    match ws, hw with
    | [v, v2], _ =>
      refine ⟨_, rfl, a, C, [.str txt], B, newId, bmB, rfl, (by show 1 ≤ 1000; omega), T, ea, ?_⟩
      refine ⟨v, rfl, .ref a, rfl, a, C, B, newId, initId, bmB, rfl, T, hno, .inl ⟨ea, fun dx hd ne => ?_⟩⟩
      refine ⟨v2, rfl, .ref a, rfl, a, C, B, newId, initId, bmB, rfl, T, hno2, .inr ⟨dx, [(f, v)], upd_same, by rw [upd_ne ne, upd_same], (by show 1 ≤ 900; omega), ?_⟩⟩
      have e : upd (upd (upd H dx (exd dx [(f, v)])) a (exo a C (some dx))) dx (exd dx [(f2, v2), (f, v)]) = upd (upd H dx (exd dx ([f, f2].zip [v, v2]).reverse)) a (exo a C (some dx)) := by
        funext b
        by_cases hb : b = dx
        · subst hb; rw [upd_same, upd_ne ne, upd_same]; rfl
        · rw [upd_ne hb]
          by_cases hb2 : b = a
          · subst hb2; rw [upd_same, upd_same]
          · rw [upd_ne hb2, upd_ne hb2, upd_ne hb, upd_ne hb]
      show Q .non (upd (upd (upd H dx (exd dx [(f, v)])) a (exo a C (some dx))) dx (exd dx [(f2, v2), (f, v)]))
      rw [e]
      exact k dx hd ne
end
end MP

set_option Elab.async false
set_option linter.all false
set_option maxRecDepth 100000
set_option autoImplicit false
set_option maxHeartbeats 4000000
/-! Mp13: raise. -/
namespace MP
open PySem PySem.Spec PyProof.Rows L2

/-- what is known of an own exception class with an __init__ of its own -/
structure XcF (S : Sta) (X : Cx) (tb : Tb) (C : Nat) : Prop where
  T : ∃ B newId initId bmB, XcC X.K (S.cA C) B newId initId bmB
  ini : ∃ fI fd ps fids, PySem.W.findIn X.K (.ref (S.cA C)) "__init__" = some (some (.ref fI)) ∧ PySem.W.typeIn X.K (.ref fI) = some (.type "function") ∧
    FnOk X.prog X.w X.K X.mg X.base (L2.CX X.prog X.w) 2 fI fd ps (spXi (S.cA C) (fids.map S.fN)) ∧ Binds X.K fd ps [] ∧ tb.xf C = some fids ∧ fids.Nodup ∧ fids.length ≤ 1000 ∧ ∀ f ∈ fids, XfF S.K (S.cA C) (S.fN f)
  xc : C ∈ S.xcs

section
variable {X : Cx} {S : Sta} {e : Expr} {es : List Expr} {ta : TA} {x : Str} {p pos pos2 : Pos} {tb : Tb} {C k : Nat} {W : WX} {fs : PEnv → Hh → Rs (List D)}
/-- C(e, ..) -/
def tMkX (C : Addr) (fls : List Str) (ta : TA) : L2.St → Hp → XK → Prop := fun σ H Q => ta σ H fun vs H1 => vs.length = fls.length ∧ vs.length ≤ 1000 ∧ ∀ d, H1 d = none → Q (.ref C) (some d) (upd H1 d (.xd (fls.zip vs).reverse))
theorem pmk_xc {C fI : Addr} {fd : FuncData} {ps fls : List Str} {B newId initId : String} {bmB : List Value} (T : XcC X.K C B newId initId bmB) (iC : PySem.W.findIn X.K (.ref C) "__init__" = some (some (.ref fI))) (tI : PySem.W.typeIn X.K (.ref fI) = some (.type "function"))
    (F1 : FnOk X.prog X.w X.K X.mg X.base (L2.CX X.prog X.w) k fI fd ps (spXi C fls)) (hr : Room (k + 1) X.A) (hb : Binds X.K fd ps []) (hx : Passes (L2.CX X.prog X.w) X (fun _ _ _ => False)) (hg : Gl X x) (hm : X.mg x = some (.ref C)) (ha : PA X (e :: es) ta)
    (hdb : (x == ("__debug__" : Str)) = false) (he : starEach (e :: es) X.env = (false, eval e X.env) :: starEach es X.env) (hpl : (backTo pos (starEach es X.env)).any (·.1) = false) :
    PMk X (.Call (.Name x p) (e :: es) [] pos) (tMkX C fls ta) := by
  intro pins s σ H Q I h
  obtain ⟨nm, q, N, bs, bm, sn, sub, ab, col, dd, k0, k1, k2, k3, k5, hC, hbm⟩ := T.cls
  refine wpAny_Call_Name_kw (ld_glob I hg hm ?_ hdb)
  refine PySem.W.callWith_K (h₀ := X.base) I.ok.mod.kin T.kC (thn (ha.run pos pins s σ H _ I h) fun us s1 ⟨vs, H1, I1, r1, hlen, hz, q1⟩ => ⟨I1.kIn, ?_⟩) he hpl
  show wpAny _ _ (call (.ref C) us) _ _ _
  obtain ⟨hp, g, dr, tk, os⟩ := s1
  have hsz : hp.objs.size ≤ hp.objs.size + 1 := Nat.le_succ _
  have hn : H1 (hp.objs.size + 1) = none := I1.hok.fresh hsz
  have hs : spXi C fls (.ref (hp.objs.size + 1) :: vs) (upd H1 (hp.objs.size + 1) (exo (hp.objs.size + 1) C none))
      (fun v H2 => v = .non ∧ ∃ (d : Addr) (fs : List (Str × V)), H2 (hp.objs.size + 1) = some (exo (hp.objs.size + 1) C (some d)) ∧ H2 d = some (exd d fs) ∧ H1 d = none ∧ Q (.ref C) (some d) (upd (L2.del H2 (hp.objs.size + 1)) d (.xd fs))) (fun _ _ _ => False) := by
    refine ⟨_, vs, rfl, hlen, upd_same, fun dx hd ne => ⟨rfl, dx, (fls.zip vs).reverse, upd_same, by rw [upd_ne ne, upd_same], ?_, ?_⟩⟩
    · rw [upd_ne ne] at hd; exact hd
    · rw [upd_ne ne] at hd
      have e : upd (L2.del (upd (upd (upd H1 (hp.objs.size + 1) (exo (hp.objs.size + 1) C none)) dx (exd dx (fls.zip vs).reverse)) (hp.objs.size + 1) (exo (hp.objs.size + 1) C (some dx))) (hp.objs.size + 1)) dx (.xd (fls.zip vs).reverse) = upd H1 dx (.xd (fls.zip vs).reverse) := by
        funext b
        by_cases hb : b = dx
        · subst hb; rw [upd_same, upd_same]
        · rw [upd_ne hb, upd_ne hb]
          by_cases hb2 : b = hp.objs.size + 1
          · rw [hb2, del_same, hn]
          · rw [del_ne hb2, upd_ne hb2, upd_ne hb, upd_ne hb2]
      rw [e]
      exact q1 dx hd
  have kk : ∀ b o, hp.get? b = some o → ((hp.push (PySem.W.kdv_tup us)).push (PySem.HandSPX.excO C hp.objs.size)).get? b = some o := fun b o e => Heap.get?_push_of_some _ (Heap.get?_push_of_some _ e)
  have hget : ((hp.push (PySem.W.kdv_tup us)).push (PySem.HandSPX.excO C hp.objs.size)).get? (hp.objs.size + 1) = some (PySem.HandSPX.excO C hp.objs.size) := by heap_get
  have I2 : Inv X pins σ (upd H1 (hp.objs.size + 1) (exo (hp.objs.size + 1) C none)) ⟨(hp.push (PySem.W.kdv_tup us)).push (PySem.HandSPX.excO C hp.objs.size), g, dr, tk, os⟩ :=
    I1.laid (t' := tk) (a := hp.objs.size + 1) (o := exo (hp.objs.size + 1) C none) (h' := (hp.push (PySem.W.kdv_tup us)).push (PySem.HandSPX.excO C hp.objs.size)) kk hsz (exo_ok hget)
  have r2 : Vals (V.ref (hp.objs.size + 1) :: vs) (Value.ref (hp.objs.size + 1) :: us) := .cons rfl r1
  have hl : (Value.ref (hp.objs.size + 1) :: us ++ []).length = ps.length := by
    have e := r2.length
    rw [F1.len _ _ _ _ hs] at e
    rw [List.append_nil]
    exact e.symm
  have hbb := hb _ (Value.ref (hp.objs.size + 1) :: us) I2.kIn hl
  rw [List.append_nil] at hbb
  have hus : us.length ≤ sizeLine := by
    rw [← Paired.length r1, sizeLine_eq]
    omega
  refine wpAny_call (PySem.HandSPX.call_own T.F (fun Y => refsT_has _ Y bm hbm) (I1.kIn _ _ hC) (PySem.W.looks_findIn I1.kIn iC) (fun self => PySem.W.bind_fn I1.kIn self tI) hus
    (codeAny_mono (F1.run _ X.stack _ _ ⟨Value.ref (hp.objs.size + 1) :: us, []⟩ (Value.ref (hp.objs.size + 1) :: us) _ _ (fun _ _ _ => False) (hr.make C us []) (I2.env0.make C us []) hbb r2 hs) fun r s' hq' => ?_))
  cases r with
  | error er => exact hx pins σ _ _ er s' I2 hq'
  | ok fl =>
    cases fl with
    | ret u =>
      obtain ⟨v, H2, os2, bare2, un2, hok2, rv, ev, d, fs, ea, ed, hd1, q2⟩ := hq'
      subst ev
      obtain ⟨h2, g2, d2, t2, os'⟩ := s'
      exact ⟨rv, mk_end (raises_own T.exC T.tyC) I1 hsz kk un2 hok2 os2 bare2 ea ed hd1 q2⟩
    | next => exact False.elim hq'
    | brk => exact False.elim hq'
    | cont => exact False.elim hq'

theorem lookup_mem {β : Type} {k : Str} {v : β} : ∀ {l : List (Str × β)}, (l.map (·.1)).Nodup → (k, v) ∈ l → l.lookup k = some v
  | [], _, h => by cases h
  | (a, b) :: r, hn, h => by
    rw [List.map_cons, List.nodup_cons] at hn
    rw [List.lookup_cons]
    rcases List.mem_cons.mp h with e | h2
    · cases e; simp
    · have ne : (k == a) = false := by
        rw [beq_eq_false_iff_ne]
        intro z
        exact hn.1 (List.mem_map.mpr ⟨(k, v), h2, z⟩)
      rw [ne]
      exact lookup_mem hn.2 h2
theorem zip_lookup {m : List Addr} {H : Hp} {f : Nat} {y : D} : ∀ {fids : List Nat} {ds : List D} {vs : List V}, VRs S m H ds vs → (fids.zip ds).lookup f = some y → ∃ v, (S.fN f, v) ∈ (fids.map S.fN).zip vs ∧ VR S m H y v
  | [], _, _, _, e => by simp at e
  | _ :: _, [], _, _, e => by simp at e
  | g :: fids, d :: ds, _, .cons a b, e => by
    rw [List.zip_cons_cons, List.lookup_cons] at e
    by_cases h : f = g
    · subst h
      simp only [beq_self_eq_true, Option.some.injEq] at e
      subst e
      exact ⟨_, by simp, a⟩
    · have h2 : (f == g) = false := by simpa using h
      rw [h2] at e
      obtain ⟨v, g1, g2⟩ := zip_lookup b e
      exact ⟨v, by rw [List.map_cons, List.zip_cons_cons]; exact List.mem_cons_of_mem _ g1, g2⟩
theorem zip_key {f : Nat} {y : D} : ∀ {fids : List Nat} {ds : List D}, (fids.zip ds).lookup f = some y → f ∈ fids
  | [], _, e => by simp at e
  | _ :: _, [], e => by simp at e
  | g :: fids, d :: ds, e => by
    rw [List.zip_cons_cons, List.lookup_cons] at e
    by_cases h : f = g
    · rw [h]; exact List.mem_cons_self
    · have h2 : (f == g) = false := by simpa using h
      rw [h2] at e
      exact List.mem_cons_of_mem _ (zip_key e)
theorem zip_keys {fls : List Str} {vs : List V} (h : fls.length = vs.length) : (fls.zip vs).map (·.1) = fls := by
  rw [List.map_fst_zip]; omega
theorem nodup_rev {α : Type} {l : List α} (h : l.Nodup) : l.reverse.Nodup := List.pairwise_reverse.mpr (h.imp fun z => z.symm)
theorem nodup_fn (L : FlF S) {l : List Nat} (h : l.Nodup) : (l.map S.fN).Nodup := List.Pairwise.map _ (fun a b (hab : a ≠ b) z => hab (L.inj a b z)) h
theorem ms_rai (L : FlF S) (hc : X.calm = true) (tk : Takes X W) (F : XcF S X tb C) (hr : Room 3 X.A) (hg : Gl X x) (hm : X.mg x = some (.ref (S.cA C))) (hdb : (x == ("__debug__" : Str)) = false)
    (ha : PA X (e :: es) (tAa S fs W)) (he : starEach (e :: es) X.env = (false, eval e X.env) :: starEach es X.env) (hpl : (backTo pos (starEach es X.env)).any (·.1) = false) :
    PS X (.Raise (some (.Call (.Name x p) (e :: es) [] pos)) none pos2) (tS S (fun ρ h => (fs ρ h).toS ρ (raiK tb C ρ)) W) := by
  obtain ⟨B, newId, initId, bmB, T⟩ := F.T
  obtain ⟨fI, fd, ps, fids, iC, tI, F1, bd, hxf, hnd, hz, hrd⟩ := F.ini
  refine (ps_raise hc tk (pmk_xc T iC tI F1 hr bd (passes_call tk fun _ _ _ _ z => False.elim z) hg hm ha hdb he hpl)).imp fun D σ H ⟨m, ρ, hh, r, q, p⟩ => ?_
  refine sA_first (k := fun ρ => raiK tb C ρ) r q p fun vs H1 m1 h1 ds r1 q1 x1 e1 p1 => ?_
  unfold raiK at p1
  rw [hxf] at p1
  dsimp only at p1
  split at p1
  · rename_i hl
    have hl' : fids.length = ds.length := by simpa using hl
    have hv : (fids.map S.fN).length = vs.length := by rw [List.length_map, hl', e1.length]
    have hlen : vs.length ≤ 1000 := by rw [← hv, List.length_map]; exact hz
    refine ⟨hv.symm, hlen, fun d hd => ?_⟩
    have x2 : Ext m1 H1 m1 (upd H1 d (.xd ((fids.map S.fN).zip vs).reverse)) := Ext.new hd
    have r2 : HR S m1 (upd H1 d (.xd ((fids.map S.fN).zip vs).reverse)) h1 := r1.new hd
    refine p1 m1 _ σ _ _ x2 r2 (q1.mono r1 x2) ⟨rfl, F.xc, fun _ => ⟨d, _, rfl, upd_same, fun f y hy => ⟨?_, hrd f (zip_key hy)⟩⟩⟩
    obtain ⟨v, g1, g2⟩ := zip_lookup e1 hy
    refine ⟨v, lookup_mem ?_ (List.mem_reverse.mpr g1), g2.mono r1 x2⟩
    rw [List.map_reverse, zip_keys hv]
    exact nodup_rev (nodup_fn L hnd)
  · exact False.elim p1
/-- a class without own __init__: C('m') -/
structure XcG (S : Sta) (X : Cx) (tb : Tb) (C : Nat) : Prop where
  F : ∃ B newId initId bmB, ExcBaseFacts B newId initId bmB ∧ PySem.W.excIn X.K (S.cA C) bmB newId = true
  kC : PySem.W.keepIn X.K (.ref (S.cA C)) = true
  exC : PySem.W.subIn X.K (.ref (S.cA C)) (.type "BaseException") = some true
  tyC : PySem.W.typeIn X.K (.ref (S.cA C)) = some (.type "type")
  xf : tb.xf C = some []
  xc : C ∈ S.xcs
theorem ms_rai0 {mm : Str} {j : Nat} {p2 : Pos} (hc : X.calm = true) (tk : Takes X W) (F : XcG S X tb C) (hg : Gl X x) (hm : X.mg x = some (.ref (S.cA C))) (hdb : (x == ("__debug__" : Str)) = false) :
    PS X (.Raise (some (.Call (.Name x p) [.Constant (.str mm) j p2] [] pos)) none pos2) (tS S (fun ρ h => (Rs.ok ([] : List D) h).toS ρ (raiK tb C ρ)) W) := by
  obtain ⟨B, newId, initId, bmB, F0, ex⟩ := F.F
  refine (ps_raise hc tk (pmk_own F0 ex hm F.kC (raises_own F.exC F.tyC) hg hdb)).imp fun D σ H ⟨m, ρ, hh, r, q, p⟩ => ?_
  have p1 : PoS S (raiK tb C ρ [] hh) m H W D := p
  unfold raiK at p1
  rw [F.xf] at p1
  exact p1 m H σ _ _ (Ext.refl _ _) r q ⟨rfl, F.xc, fun z => absurd rfl z⟩
end
end MP

set_option Elab.async false
set_option linter.all false
set_option maxRecDepth 100000
set_option autoImplicit false
set_option maxHeartbeats 4000000
/-! Mp14: try with any number of clauses «except C [as n]». -/
namespace MP
open PySem PySem.Spec PyProof.Rows L2

abbrev HSu := Addr → Value → Option Addr → TS
def endD (oi : Option Nat) (D : Ends) : Ends := match oi with
  | some i => { nx := fun σ' H' => D.nx (σ'.set i none) H', rt := D.rt, bk := fun σ' H' => D.bk (σ'.set i none) H', ct := fun σ' H' => D.ct (σ'.set i none) H' }
  | none => D
def setA (oi : Option Nat) (a : Addr) (σ : L2.St) : L2.St := match oi with
  | some i => σ.set i (some (.ref a))
  | none => σ
/-- what the clauses wish of an exception of the body -/
def wN (K : PySem.W.Frag) (Wout : WX) (D : Ends) : List (Value × Option Nat × HSu) → WX
  | [] => Wout
  | (c, oi, ts) :: r => fun cls d σ H => ∃ b, PySem.W.exmOne K cls c = some b ∧ (b = true → ∀ a, H a = none → ts a cls d (endD oi D) (setA oi a σ) H) ∧ (b = false → wN K Wout D r cls d σ H)
inductive HdN (X : Cx) : List ExceptHandler → List (Value × Option Nat × HSu) → Prop
  | nil : HdN X [] []
  | one {x : Str} {c : Value} {ts : HSu} {b₀ : Stmt} {suite : List Stmt} {np pos' : Pos} {hds : List ExceptHandler} {l : List (Value × Option Nat × HSu)} (hc : Names X x c)
      (hsu : ∀ (a : Addr) (oe : Obj) (cls : Value) (d : Option Addr) (pn : List (Addr × Obj)), Zc cls d oe → (∃ vs, oe.data = .fields vs) → PSs (X.suite a ((a, oe) :: pn)) (b₀ :: suite) (ts a cls d)) (r : HdN X hds l) :
      HdN X (.ExceptHandler (some (.Name x np)) none (b₀ :: suite) pos' :: hds) ((c, none, ts) :: l)
  | as {x n : Str} {i : Nat} {c : Value} {ts : HSu} {b₀ : Stmt} {suite : List Stmt} {np pos' : Pos} {hds : List ExceptHandler} {l : List (Value × Option Nat × HSu)} (hc : Names X x c) (hi : X.N[i]? = some n) (hln : X.env.kindOf n = some .local)
      (hsu : ∀ (a : Addr) (oe : Obj) (cls : Value) (d : Option Addr) (pn : List (Addr × Obj)), Zc cls d oe → (∃ vs, oe.data = .fields vs) → PSs (X.suite a ((a, oe) :: pn)) (b₀ :: suite) (ts a cls d)) (r : HdN X hds l) :
      HdN X (.ExceptHandler (some (.Name x np)) (some n) (b₀ :: suite) pos' :: hds) ((c, some i, ts) :: l)
section
variable {X : Cx} {body : List Stmt} {h₀ : ExceptHandler} {hds : List ExceptHandler} {l : List (Value × Option Nat × HSu)} {pos : Pos} {tb : WX → TS} {Wout : WX}
theorem ps_tryN (hs : X.stack = X.env :: X.outer) (hf : X.env.frame = some X.env.locals) (hN : X.N.Nodup) (tk : Takes X Wout)
    (hb : ∀ (W : WX) (pn : List (Addr × Obj)) (xe : Value → Shared → Prop), Takes (X.tr pn xe) W → PassesOwn (model X.prog X.w) X.A X.env xe → PSs (X.tr pn xe) body (tb W))
    (hh : HdN X (h₀ :: hds) l) : PS X (.Try body (h₀ :: hds) [] [] pos) (fun D σ H => tb (wN X.K Wout D l) D σ H) := by
  refine ⟨fun pins s σ H D I h => ?_⟩
  have ok := I.ok
  have hfr : X.A.frames = some (X.env :: X.outer) := by rw [ok.frames, hs]
  refine wpAny_Try_except ?_
  refine wpAny_mono ((hb (wN X.K Wout D l) (X.pn ++ pins) (fun e s₁ => wpAny (model X.prog X.w) X.A (noteFrame e X.env) (fun _ s₂ => wpAny (model X.prog X.w) X.A (setFlight e none) (fun _ s₃ =>
    wpAny (model X.prog X.w) X.A (handleBy e X.env (h₀ :: hds)) (SP X pins D) X.xe s₃) X.xe s₂) X.xe s₁) (fun u s' xx => ?_) PassesOwn.looking).run [] s σ H D (I.toTry _) h) (fun f s1 hsp => ?_) (fun e s1 he => he)
  · obtain ⟨a, B, sI, pins', σ', H', cls, d, rfl, J', nb, up, sky, na, os, ag, w⟩ := xx
    have J : Inv X pins σ' H' sI := J'.ofTry ok
    have sky' : Sky B (X.env :: X.outer) a (Zc cls d) X.env.locals s'.heap := by rw [← hs]; exact sky
    show wpAny (model X.prog X.w) X.A (noteFrame (.ref a) X.env) _ _ _
    refine Sky.land Zc.steady hfr hf sky' fun h3 fl3 up3 => ?_
    have J3 : Inv X pins σ' H' { s' with heap := h3 } := J.landed nb fl3.1 (up.trans up3) os ag
    obtain ⟨oe3, vs3, he3, hz3, hd3⟩ := fl3.there
    have notFr : ∀ {h : Heap} {o : Obj} {vs : Array Value}, h.FunFrames B (X.env :: X.outer) → h.get? a = some o → o.data = .fields vs → a ∉ frs (X.env :: X.outer) := fun {h o vs} ff e dd hm => by
      obtain ⟨_, o', e', hnf⟩ := ff.mem hm
      rw [e] at e'; cases e'
      exact hnf _ dd
    have nfr := notFr fl3.2.2.1 he3 hd3
    have nL : a ≠ X.env.locals := fun z => nfr (List.mem_filterMap.mpr ⟨X.env, List.mem_cons_self, by rw [hf, z]⟩)
    have nF : a ∉ X.fs := fun hm => by
      obtain ⟨e, he, q⟩ := List.mem_filterMap.mp hm
      exact nfr (List.mem_filterMap.mpr ⟨e, List.mem_cons_of_mem _ he, q⟩)
    have S3 := J3.suite he3 hd3 na nL nF
    have LT : PySem.W.Looks (model X.prog X.w) h3 (typeOf (.ref a)) cls := fun A Q E s k q => wpAny_typeOf_ref (k _ _ he3) (by rw [hz3.1]; exact q)
    have test : ∀ {x : Str} {c : Value} {np : Pos}, Names X x c → ∀ {Q : Value → Shared → Prop} {E : Value → Shared → Prop}, Q c { s' with heap := h3 } → wpAny (model X.prog X.w) (X.A.mark (some (.ref a))) (eval (.Name x np) X.env) Q E { s' with heap := h3 } := fun {x c np} hc {Q E} q => by
      obtain ⟨hg, hdbg, hm | ⟨hm, hv, hnn⟩⟩ := hc
      · exact ld_glob (X := X.suite a ((a, oe3) :: (X.pn ++ pins))) S3 hg hm q hdbg
      · exact ld_blt (X := X.suite a ((a, oe3) :: (X.pn ++ pins))) S3 hg hm hv q hnn hdbg
    have go : ∀ {hds' : List ExceptHandler} {l' : List (Value × Option Nat × HSu)}, HdN X hds' l' → wN X.K Wout D l' cls d σ' H' →
        wpAny (model X.prog X.w) X.A (handleBy (.ref a) X.env hds') (SP X pins D) X.xe { s' with heap := h3 } := by
      intro hds' l' hk
      induction hk with
      | nil =>
        intro w
        refine wpAny_handleBy_nil ?_
        obtain ⟨k1, k2, k3, oe, vs, T, oT, ts', he, hz, hd, h1, hr⟩ := id fl3
        unfold PySem.passOn
        refine wpAny_bind (wpAny_field he hd h1 ?_)
        rw [if_neg (show ¬ ((Value.ref T == Value.none) = true) from by simp)]
        have fin : wpAny (model X.prog X.w) X.A (setFlight (.ref a) X.env.frame) (fun _ s4 => wpAny (model X.prog X.w) X.A (throw (.ref a) : Sem Flow) (SP X pins D) X.xe s4) X.xe { s' with heap := h3 } := by
          rw [hf]
          refine HandSPX.setFlight_upZ fl3 fun h4 hh4 up4 => wpAny_throw (tk _ _ ?_)
          exact ⟨a, B, sI, pins, σ', H', cls, d, rfl, J, nb, (up.trans up3).trans up4, .inr (.inr (by rw [hs]; exact hh4)), na, os, ag, w⟩
        first
          | exact wpAny_bind (wpAny_pure (wpAny_bind fin))
          | exact wpAny_bind fin
      | @one x c ts b₀ suite np pos' hds2 l2 hc hsu r ih =>
        intro w
        obtain ⟨b, hb1, hyes, hno⟩ := w
        refine wpAny_handleBy_cons (codeAny_handlers_test ?_) (by intro q; cases q)
        have LM := PySem.W.exm_one (M := model X.prog X.w) (J3.kIn) LT hb1
        refine test hc (LM.here ?_)
        cases b with
        | true =>
          refine codeAny_handlers_suite ?_
          refine HandSPX.lands_againZ fl3 fun h4 fl4 up4 => ?_
          have J4 : Inv X pins σ' H' { s' with heap := h4 } := J.landed nb fl4.1 ((up.trans up3).trans up4) os ag
          obtain ⟨oe4, vs4, he4, hz4, hd4⟩ := fl4.there
          have S4 := J4.suite he4 hd4 na nL nF
          refine wpAny_mono ((hsu a oe4 cls d (X.pn ++ pins) hz4 ⟨_, hd4⟩).run [] _ _ H' _ S4 (hyes rfl a na)) (fun f s6 hsp => ?_) (fun _ _ z => False.elim z)
          cases f with
          | next =>
            obtain ⟨σ6, H6, S6, q6⟩ := hsp
            exact ⟨_, _, S6.unsuite ok, q6⟩
          | brk =>
            obtain ⟨σ6, H6, S6, q6⟩ := hsp
            exact ⟨_, _, S6.unsuite ok, q6⟩
          | cont =>
            obtain ⟨σ6, H6, S6, q6⟩ := hsp
            exact ⟨_, _, S6.unsuite ok, q6⟩
          | ret u =>
            obtain ⟨v6, σ6, H6, S6, r6, q6⟩ := hsp
            exact ⟨_, _, _, S6.unsuite ok, r6, q6⟩
        | false =>
          show wpAny _ X.A (handleBy (.ref a) X.env hds2) _ _ _
          exact ih (hno rfl)
      | @as x n i c ts b₀ suite np pos' hds2 l2 hc hi hln hsu r ih =>
        intro w
        obtain ⟨b, hb1, hyes, hno⟩ := w
        have hloc : Loc X.env.scope n := .inl hln
        refine wpAny_handleBy_cons (codeAny_handlers_test ?_) (by intro q; cases q)
        have LM := PySem.W.exm_one (M := model X.prog X.w) (J3.kIn) LT hb1
        refine test hc (LM.here ?_)
        cases b with
        | true =>
          refine codeAny_handlers_suite_as ?_
          refine HandSPX.lands_againZ fl3 fun h4 fl4 up4 => ?_
          have J4 : Inv X pins σ' H' { s' with heap := h4 } := J.landed nb fl4.1 ((up.trans up3).trans up4) os ag
          obtain ⟨oe4, vs4, he4, hz4, hd4⟩ := fl4.there
          have S4 := J4.suite he4 hd4 na nL nF
          refine store_ok (X := X.suite a ((a, oe4) :: (X.pn ++ pins))) (v := .ref a) S4 hN hi hloc rfl (fun s5 S5 => ?_) (.inr hln)
          refine wpAny_mono ((hsu a oe4 cls d (X.pn ++ pins) hz4 ⟨_, hd4⟩).run [] s5 _ H' _ S5 (hyes rfl a na)) (fun f s6 hsp => ?_) (fun _ _ z => False.elim z)
          have end_ : ∀ {σ6 : L2.St} {H6 : Hp} {Q : Shared → Prop}, Inv (X.suite a ((a, oe4) :: (X.pn ++ pins))) [] σ6 H6 s6 → (∀ s7, Inv X pins (σ6.set i none) H6 s7 → Q s7) →
              wpAny (model X.prog X.w) X.A (do bindName X.env n .none; unbindBehindTheSuite X.env n pos') (fun _ s7 => Q s7) X.xe s6 := fun {σ6 H6 Q} S6 hq => gone_ok (S6.unsuite ok) hN hi hln hq
          cases f with
          | next =>
            obtain ⟨σ6, H6, S6, q6⟩ := hsp
            exact end_ S6 fun s7 J7 => ⟨_, _, J7, q6⟩
          | brk =>
            obtain ⟨σ6, H6, S6, q6⟩ := hsp
            exact end_ S6 fun s7 J7 => ⟨_, _, J7, q6⟩
          | cont =>
            obtain ⟨σ6, H6, S6, q6⟩ := hsp
            exact end_ S6 fun s7 J7 => ⟨_, _, J7, q6⟩
          | ret u =>
            obtain ⟨v6, σ6, H6, S6, r6, q6⟩ := hsp
            exact end_ S6 fun s7 J7 => ⟨_, _, _, J7, r6, q6⟩
        | false =>
          show wpAny _ X.A (handleBy (.ref a) X.env hds2) _ _ _
          exact ih (hno rfl)
    exact go hh w
  · cases f with
    | next =>
      obtain ⟨σ', H', J', q⟩ := hsp
      exact wpAny_execs_nil ⟨σ', H', J'.ofTry ok, q⟩
    | brk =>
      obtain ⟨σ', H', J', q⟩ := hsp
      exact ⟨σ', H', J'.ofTry ok, q⟩
    | cont =>
      obtain ⟨σ', H', J', q⟩ := hsp
      exact ⟨σ', H', J'.ofTry ok, q⟩
    | ret u =>
      obtain ⟨v, σ', H', J', r, q⟩ := hsp
      exact ⟨v, σ', H', J'.ofTry ok, r, q⟩
end
end MP

set_option Elab.async false
set_option linter.all false
set_option maxRecDepth 100000
set_option autoImplicit false
set_option maxHeartbeats 4000000
/-! Mp15: try by our evaluator; the caught exception's fields. -/
namespace MP
open PySem PySem.Spec PyProof.Rows L2

/-- the same written part -/
structure SE (S S' : Sta) : Prop where
  K : S'.K = S.K
  fA : S'.fA = S.fA
  cA : S'.cA = S.cA
  fN : S'.fN = S.fN
  cs : S'.cs = S.cs
  xcs : S'.xcs = S.xcs
section
variable {S S' : Sta} {m : List Addr} {H : Hp}
mutual
theorem VR.re (x : SE S S') : ∀ {d : D} {v : V}, VR S m H d v → VR S' m H d v
  | _, _, .non => .non
  | _, _, .bl b => .bl b
  | _, _, .int i => .int i
  | _, _, .str z => .str z
  | _, _, .tup e q => .tup e (VRs.re x q)
  | _, _, .ref e => .ref e
  | _, _, .fn f => by rw [← x.fA]; exact .fn f
  | _, _, .frz e q => .frz (by rw [x.K]; exact e) (VRs.re x q)
theorem VRs.re (x : SE S S') : ∀ {d : List D} {v : List V}, VRs S m H d v → VRs S' m H d v
  | _, _, .nil => .nil
  | _, _, .cons a b => .cons (VR.re x a) (VRs.re x b)
end
theorem FR.re (x : SE S S') : ∀ {d : List (Nat × D)} {v : List (Str × V)}, FR S m H d v → FR S' m H d v
  | _, _, .nil => .nil
  | _, _, .cons a b => by rw [← x.fN]; exact .cons (a.re x) (FR.re x b)
theorem KR.re (x : SE S S') : ∀ {d : List (D × D)} {v : List (Key × V)}, KR S m H d v → KR S' m H d v
  | _, _, .nil => .nil
  | _, _, .cons e a b => .cons e (a.re x) (KR.re x b)
theorem OR.re (x : SE S S') {a : Addr} {o : Ob} (q : OR S m H a o) : OR S' m H a o := by
  cases o with
  | lst l => obtain ⟨vs, e1, q1, q2⟩ := q; exact ⟨vs, e1, q1.re x, q2⟩
  | dct l => obtain ⟨vs, e1, q1⟩ := q; exact ⟨vs, e1, q1.re x⟩
  | ins C fs => obtain ⟨hc, dx, ws, e1, q1⟩ := q; exact ⟨x.cs ▸ hc, dx, ws, x.cA ▸ e1, q1.re x⟩
theorem XR.re (x : SE S S') {e : Exn} {cls : Value} {d : Option Addr} (q : XR S m H e cls d) : XR S' m H e cls d :=
  ⟨x.cA ▸ q.cls, x.xcs ▸ q.xc, fun n => let ⟨a, ws, e1, e2, e3⟩ := q.at_ n; ⟨a, ws, e1, e2, fun f y hy => let ⟨⟨v, g1, g2⟩, g3⟩ := e3 f y hy; ⟨⟨v, by rw [x.fN]; exact g1, g2.re x⟩, by rw [x.K, x.cA, x.fN]; exact g3⟩⟩⟩
theorem HR.re (x : SE S S') {h : Hh} (r : HR S m H h) (k : S'.sx m H) : HR S' m H h := ⟨r.len, r.nd, fun i o e => let ⟨a, e1, e2⟩ := r.ob i o e; ⟨a, e1, e2.re x⟩, k⟩
theorem ER.re (x : SE S S') {ρ : PEnv} {σ : L2.St} (r : ER S m H ρ σ) (k : ∀ p ∈ S'.xs, σ[p.1]? = some (some p.2)) : ER S' m H ρ σ := ⟨r.len, fun i d e => let ⟨v, e1, e2⟩ := r.at_ i d e; ⟨v, e1, e2.re x⟩, k⟩
theorem SE.sym (x : SE S S') : SE S' S := ⟨x.K.symm, x.fA.symm, x.cA.symm, x.fN.symm, x.cs.symm, x.xcs.symm⟩
end
/-- in a suite -/
def Sta.sui (S : Sta) (e : Exn) (cls : Value) (d : Option Addr) (oi : Option Nat) (a : Addr) : Sta :=
  { S with sx := fun m H => S.sx m H ∧ XR S m H e cls d, sxm := fun m H m' H' g kp q => ⟨S.sxm m H m' H' g kp q.1, q.2.wk g kp⟩, xs := match oi with
    | some i => [(i, .ref a)]
    | none => [] }
theorem Sta.sui_se {S : Sta} {e : Exn} {cls : Value} {d : Option Addr} {oi : Option Nat} {a : Addr} : SE S (S.sui e cls d oi a) := ⟨rfl, rfl, rfl, rfl, rfl, rfl⟩

section
variable {X : Cx} {S : Sta} {cf : Nat → List D → Hh → Rs D} {tb : Tb} {pos : Pos} {W : WX}
/-- the end of a suite with a name -/
theorem pos_end {S' : Sta} (x : SE S S') (hsx : ∀ m H, S'.sx m H → S.sx m H) (hxs : S.xs = []) {i : Nat} {r : Sr} {m : List Addr} {H : Hp} {D : Ends} (p : PoS S (endK i r) m H W D) : PoS S' r m H W0 (endD (some i) D) := by
  have er : ∀ {m' : List Addr} {H' : Hp} {ρ : PEnv} {σ : L2.St}, ER S' m' H' ρ σ → ER S m' H' (ρ.set i none) (σ.set i none) := fun q => (q.re x.sym (by rw [hxs]; simp)).none i (by rw [hxs]; simp) none
  have hr : ∀ {m' : List Addr} {H' : Hp} {h : Hh}, HR S' m' H' h → HR S m' H' h := fun q => q.re x.sym (hsx _ _ q.sx)
  cases r with
  | ok f h' =>
    cases f with
    | nx ρ => exact fun m' H' σ' y r q => p m' H' _ y (hr r) (er q)
    | rt d => exact fun m' H' v y r q => p m' H' v y (hr r) (q.re x.sym)
    | bk ρ => exact fun m' H' σ' y r q => p m' H' _ y (hr r) (er q)
    | ct ρ => exact fun m' H' σ' y r q => p m' H' _ y (hr r) (er q)
  | ex e ρ h' => exact False.elim p
  | st => exact False.elim p
theorem pos_end0 {S' : Sta} (x : SE S S') (hsx : ∀ m H, S'.sx m H → S.sx m H) (hxs : S.xs = []) {r : Sr} {m : List Addr} {H : Hp} {D : Ends} (p : PoS S (match r with | .ex _ _ _ => .st | r => r) m H W D) : PoS S' r m H W0 (endD none D) := by
  have er : ∀ {m' : List Addr} {H' : Hp} {ρ : PEnv} {σ : L2.St}, ER S' m' H' ρ σ → ER S m' H' ρ σ := fun q => q.re x.sym (by rw [hxs]; simp)
  have hr : ∀ {m' : List Addr} {H' : Hp} {h : Hh}, HR S' m' H' h → HR S m' H' h := fun q => q.re x.sym (hsx _ _ q.sx)
  cases r with
  | ok f h' =>
    cases f with
    | nx ρ => exact fun m' H' σ' y r q => p m' H' _ y (hr r) (er q)
    | rt d => exact fun m' H' v y r q => p m' H' v y (hr r) (q.re x.sym)
    | bk ρ => exact fun m' H' σ' y r q => p m' H' _ y (hr r) (er q)
    | ct ρ => exact fun m' H' σ' y r q => p m' H' _ y (hr r) (er q)
  | ex e ρ h' => exact False.elim p
  | st => exact False.elim p
/-- the clauses and ours -/
inductive HdM (X : Cx) (S : Sta) (cf : Nat → List D → Hh → Rs D) (tb : Tb) : List ExceptHandler → Hs → Prop
  | nil : HdM X S cf tb [] .nil
  | one {x : Str} {C : Nat} {b₀ : Stmt} {suite : List Stmt} {bb : Ss} {np pos' : Pos} {hds : List ExceptHandler} {hs : Hs} (hc : Names X x (.ref (S.cA C))) (hk : ∀ E ∈ S.xcs, PySem.W.exmOne X.K (.ref (S.cA E)) (.ref (S.cA C)) = some (tb.sub E C))
      (hsu : ∀ (a : Addr) (oe : Obj) (cls : Value) (d : Option Addr) (pn : List (Addr × Obj)) (e : Exn), Zc cls d oe → (∃ vs, oe.data = .fields vs) → PSs (X.suite a ((a, oe) :: pn)) (b₀ :: suite) (tS (S.sui e cls d none a) (exs cf tb bb (some e)) W0)) (r : HdM X S cf tb hds hs) :
      HdM X S cf tb (.ExceptHandler (some (.Name x np)) none (b₀ :: suite) pos' :: hds) (.cons C none bb hs)
  | as {x n : Str} {i : Nat} {C : Nat} {b₀ : Stmt} {suite : List Stmt} {bb : Ss} {np pos' : Pos} {hds : List ExceptHandler} {hs : Hs} (hc : Names X x (.ref (S.cA C))) (hk : ∀ E ∈ S.xcs, PySem.W.exmOne X.K (.ref (S.cA E)) (.ref (S.cA C)) = some (tb.sub E C)) (hi : X.N[i]? = some n) (hln : X.env.kindOf n = some .local)
      (hsu : ∀ (a : Addr) (oe : Obj) (cls : Value) (d : Option Addr) (pn : List (Addr × Obj)) (e : Exn), Zc cls d oe → (∃ vs, oe.data = .fields vs) → PSs (X.suite a ((a, oe) :: pn)) (b₀ :: suite) (tS (S.sui e cls d (some i) a) (exs cf tb bb (some e)) W0)) (r : HdM X S cf tb hds hs) :
      HdM X S cf tb (.ExceptHandler (some (.Name x np)) (some n) (b₀ :: suite) pos' :: hds) (.cons C (some i) bb hs)
def tsU (S : Sta) (oi : Option Nat) (f : Exn → PEnv → Hh → Sr) : HSu := fun a cls d D σ H => ∃ e, tS (S.sui e cls d oi a) (f e) W0 D σ H
theorem HdM.list (hxs : S.xs = []) {hds : List ExceptHandler} {hs : Hs} (M : HdM X S cf tb hds hs) : ∃ l, HdN X hds l ∧ ∀ (Wout : WX) (D : Ends) (e : Exn) (ρ : PEnv) (h : Hh) (m : List Addr) (H : Hp) (σ : L2.St) (cls : Value) (d : Option Addr),
    HR S m H h → ER S m H ρ σ → XR S m H e cls d → PoS S (exh cf tb hs e ρ h) m H Wout D → wN X.K Wout D l cls d σ H := by
  induction M with
  | nil => exact ⟨[], .nil, fun Wout D e ρ h m H σ cls d r q x p => by unfold exh at p; exact p m H σ cls d (Ext.refl _ _) r q x⟩
  | @one x C b₀ suite bb np pos' hds hs hc hk hsu r ih =>
    obtain ⟨l, h1, h2⟩ := ih
    refine ⟨(_, none, tsU S none fun e => exs cf tb bb (some e)) :: l, .one hc (fun a oe cls d pn hz hf => ⟨fun pins s σ H D I ⟨e, h⟩ => (hsu a oe cls d pn e hz hf).run pins s σ H D I h⟩) h1, ?_⟩
    intro Wout D e ρ h m H σ cls d r q x p
    refine ⟨tb.sub e.cls C, by rw [x.cls]; exact hk _ x.xc, fun hb a ha => ?_, fun hb => ?_⟩
    · unfold exh at p
      rw [if_pos hb] at p
      unfold hdlK at p
      exact ⟨e, m, ρ, h, r.re Sta.sui_se ⟨r.sx, x⟩, q.re Sta.sui_se (fun p hp => by cases hp), pos_end0 Sta.sui_se (fun _ _ z => z.1) hxs p⟩
    · unfold exh at p
      rw [if_neg (by rw [hb]; decide)] at p
      exact h2 Wout D e ρ h m H σ cls d r q x p
  | @as x n i C b₀ suite bb np pos' hds hs hc hk hi hln hsu r ih =>
    obtain ⟨l, h1, h2⟩ := ih
    refine ⟨(_, some i, tsU S (some i) fun e => exs cf tb bb (some e)) :: l, .as hc hi hln (fun a oe cls d pn hz hf => ⟨fun pins s σ H D I ⟨e, h⟩ => (hsu a oe cls d pn e hz hf).run pins s σ H D I h⟩) h1, ?_⟩
    intro Wout D e ρ h m H σ cls d r q x p
    refine ⟨tb.sub e.cls C, by rw [x.cls]; exact hk _ x.xc, fun hb a ha => ?_, fun hb => ?_⟩
    · unfold exh at p
      rw [if_pos hb] at p
      unfold hdlK at p
      dsimp only at p
      split at p
      · rename_i hlt
        have q2 : ER S m H (ρ.set i none) (σ.set i (some (.ref a))) := q.none i (by rw [hxs]; simp) (some (.ref a))
        refine ⟨e, m, ρ.set i none, h, r.re Sta.sui_se ⟨r.sx, x⟩, q2.re Sta.sui_se (fun p hp => ?_), pos_end Sta.sui_se (fun _ _ z => z.1) hxs p⟩
        have hp' : p = (i, .ref a) := by simpa [Sta.sui] using hp
        rw [hp', List.getElem?_set_self (by rw [← q.len]; exact hlt)]
      · exact False.elim p
    · unfold exh at p
      rw [if_neg (by rw [hb]; decide)] at p
      exact h2 Wout D e ρ h m H σ cls d r q x p
theorem ms_try {body : List Stmt} {h₀ : ExceptHandler} {hds : List ExceptHandler} {hs : Hs} {fb : PEnv → Hh → Sr} (hxs : S.xs = []) (hst : X.stack = X.env :: X.outer) (hf : X.env.frame = some X.env.locals) (hN : X.N.Nodup) (tk : Takes X W)
    (hb : ∀ (W : WX) (pn : List (Addr × Obj)) (xe : Value → Shared → Prop), Takes (X.tr pn xe) W → PassesOwn (model X.prog X.w) X.A X.env xe → PSs (X.tr pn xe) body (tS S fb W))
    (hh : HdM X S cf tb (h₀ :: hds) hs) : PS X (.Try body (h₀ :: hds) [] [] pos) (tS S (fun ρ h => tryK (exh cf tb hs) (fb ρ h)) W) := by
  obtain ⟨l, h1, h2⟩ := HdM.list hxs hh
  refine (ps_tryN (tb := fun W => tS S fb W) hst hf hN tk hb h1).imp fun D σ H ⟨m, ρ, hh, r, q, p⟩ => ⟨m, ρ, hh, r, q, ?_⟩
  dsimp only at p
  revert p
  cases fb ρ hh with
  | ok f h' => exact fun p => by cases f <;> exact p
  | ex e ρ' h' => exact fun p m' H' σ' cls d y r' q' x' => h2 W D e ρ' h' m' H' σ' cls d r' q' x' (PoS.later y r' p)
  | st => exact fun p => p
/-- e.f in the suite -/
theorem me_xf {a : Addr} {oe : Obj} {cls : Value} {d : Option Addr} {pn : List (Addr × Obj)} {e : Exn} {i fl : Nat} {n : Str} {np : Pos} (hK : X.K = S.K) (hz : Zc cls d oe) (hf : ∃ vs, oe.data = .fields vs) (hi : X.N[i]? = some n) (hv : Vis X.env.scope n) (hd : (n == ("__debug__" : Str)) = false) (hcd : (n == ("__classdict__" : Str)) = false) :
    PE (X.suite a ((a, oe) :: pn)) (.Attribute (.Name n np) (S.fN fl) pos) (tE (S.sui e cls d (some i) a) (fun _ h => Rs.lift (e.fs.lookup fl) h) W) := by
  refine ⟨fun pins s σ H Q I ⟨m, ρ, hh, r, q, p⟩ => ?_⟩
  have px := q.pin (i, .ref a) (by simp [Sta.sui])
  have xr : XR S m H e cls d := r.sx.2
  cases el : e.fs.lookup fl with
  | none => simp only [el] at p; exact False.elim p
  | some y =>
    simp only [el] at p
    have hne : e.fs ≠ [] := fun z => by rw [z] at el; cases el
    obtain ⟨dd, ws, ed, ea, hw⟩ := xr.at_ hne
    obtain ⟨⟨v, l, vr⟩, F⟩ := hw fl y el
    refine attr_of rfl (thn ((pe_var (X := X.suite a ((a, oe) :: pn)) hi hv hd hcd).run pins s σ H (fun x H1 => x = .ref a ∧ H1 = H) I ⟨_, px, rfl, rfl⟩) fun u s1 hh2 => ?_)
    obtain ⟨x, H1, I1, rx, ex, eH⟩ := hh2
    subst ex
    subst eH
    obtain rfl : u = Value.ref a := rx
    have ec := xr.cls
    subst ec
    subst ed
    obtain ⟨ha, _⟩ := I1.pin (a, oe) (List.mem_append_left _ List.mem_cons_self)
    obtain ⟨vs, hd⟩ := hf
    have hx : ObjOk X.prog X.w H1 s1.heap dd (.xd ws) := I1.hok dd _ ea
    obtain ⟨mA, hns, hr⟩ := hx
    obtain ⟨od, ho, hl⟩ := lookIn_ns hns
    obtain ⟨u, hu, ru⟩ := RelO.some_of (v := v) (o := mA (S.fN fl)) (by rw [← l]; exact hr (S.fN fl))
    have J : PySem.W.InstAt s1.heap a oe (S.cA e.cls) (some od) := ⟨ha, hz.1, by unfold PySem.W.notCls; rw [hd] <;> rfl, by rw [hz.2]; exact ho⟩
    exact HandSPX.exc_get I1.kIn J (hK ▸ F.ga) (hK ▸ F.gg) (hK ▸ F.exC) (PySem.W.findObj_own (hK ▸ F.hd) (hK ▸ F.no) rfl (by rw [hl, hu])) (handed_of ru) ⟨v, H1, I1.tok _, ru, Po.done p r (vr.re Sta.sui_se)⟩
end
end MP

set_option Elab.async false
set_option linter.all false
set_option maxRecDepth 100000
set_option autoImplicit false
set_option maxHeartbeats 4000000
/-! Mp16: zip of two lists, of two tuples. -/
namespace MP
open PySem PySem.Spec PyProof.Rows L2
section
variable {X : Cx} {S : Sta} {W : WX} {m : List Addr} {H : Hp} {h : Hh}
theorem walkL (r : HR S m H h) {x : D} {v : V} (q : VR S m H x v) {l : List D} (e : lstD h x = some l) : ∃ a J, v = .ref a ∧ (∃ xs, SqL S.K H a xs) ∧ itSeq x h = .ok J h ∧
    ∀ (m2 : List Addr) (H2 : Hp) (h2 : Hh) (i : Nat) (o : Option D), Ext m H m2 H2 → HR S m2 H2 h2 → J.nxt h2 i = some o → ∃ vs, SqL S.K H2 a vs ∧ (∀ d, o = some d → ∃ w, vs[i]? = some w ∧ VR S m2 H2 d w) ∧ (o = none → vs.length ≤ i) := by
  unfold lstD at e
  split at e
  · rename_i l0
    obtain ⟨a, vs, rfl, e2, e3, e4⟩ := SqL.ext r q
    refine ⟨a, _, rfl, ⟨vs, e3⟩, rfl, fun m2 H2 h2 i o y r2 en => ?_⟩
    have e' : l0[i]? = o := Option.some.inj en
    refine ⟨vs, e4 y, fun d hd => ?_, fun hn => ?_⟩
    · obtain ⟨w, g1, g2⟩ := e2.get (e'.trans hd)
      exact ⟨w, g1, g2.mono r y⟩
    · rw [← e2.length]; exact List.getElem?_eq_none_iff.mp (e'.trans hn)
  · rename_i n
    split at e
    · rename_i l0 hn
      obtain ⟨a, vs, rfl, ha, e2, e3, _⟩ := q.lst_inv r hn
      have ei : itSeq (.ref n) h = .ok ⟨l0.length, lstNx n⟩ h := by unfold itSeq; simp only [hn]
      refine ⟨a, _, rfl, ⟨vs, SqL.of e2⟩, ei, fun m2 H2 h2 i o y r2 en => ?_⟩
      have ha2 := y.get ha
      have en : lstNx n h2 i = some o := en
      unfold lstNx at en
      split at en
      · rename_i l2 hn2
        obtain ⟨b, eb, ws, g1, g2, g3⟩ := r2.ob n _ hn2
        rw [ha2] at eb
        cases eb
        have e' : l2[i]? = o := Option.some.inj en
        refine ⟨ws, SqL.of g1, fun d hd => g2.get (e'.trans hd), fun hn => ?_⟩
        rw [← g2.length]; exact List.getElem?_eq_none_iff.mp (e'.trans hn)
      · cases en
    · cases e
  · cases e
theorem walkT (r : HR S m H h) {x : D} {v : V} (q : VR S m H x v) (e : isTupD x = true) : ∃ a J, v = .ref a ∧ (∃ xs, SqT S.K H a xs) ∧ itSeq x h = .ok J h ∧
    ∀ (m2 : List Addr) (H2 : Hp) (h2 : Hh) (i : Nat) (o : Option D), Ext m H m2 H2 → HR S m2 H2 h2 → J.nxt h2 i = some o → ∃ vs, SqT S.K H2 a vs ∧ (∀ d, o = some d → ∃ w, vs[i]? = some w ∧ VR S m2 H2 d w) ∧ (o = none → vs.length ≤ i) := by
  unfold isTupD at e
  split at e
  · rename_i l0
    obtain ⟨a, vs, rfl, e2, e3⟩ := q.tup_inv
    refine ⟨a, _, rfl, ⟨vs, SqT.of e2⟩, rfl, fun m2 H2 h2 i o y r2 en => ?_⟩
    have e' : l0[i]? = o := Option.some.inj en
    refine ⟨vs, SqT.ext r y e2, fun d hd => ?_, fun hn => ?_⟩
    · obtain ⟨w, g1, g2⟩ := e3.get (e'.trans hd)
      exact ⟨w, g1, g2.mono r y⟩
    · rw [← e3.length]; exact List.getElem?_eq_none_iff.mp (e'.trans hn)
  · cases e
theorem zipN_item {J K : Itr} {h : Hh} {i : Nat} {d : D} (e : zipN false J K h i = some (some d)) : ∃ u v, J.nxt h i = some (some u) ∧ K.nxt h i = some (some v) ∧ d = .tup [u, v] := by
  unfold zipN at e
  cases e1 : J.nxt h i with
  | none => simp [e1] at e
  | some u =>
    cases e2 : K.nxt h i with
    | none => cases u <;> simp [e1, e2] at e
    | some v =>
      cases u with
      | none => cases v <;> simp [e1, e2] at e
      | some u =>
        cases v with
        | none => simp [e1, e2] at e
        | some v =>
          simp only [e1, e2, Option.some.injEq] at e
          exact ⟨u, v, rfl, rfl, e.symm⟩
theorem zipN_end {J K : Itr} {h : Hh} {i : Nat} (e : zipN false J K h i = some none) : ∃ u v, J.nxt h i = some u ∧ K.nxt h i = some v ∧ (u = none ∨ v = none) := by
  unfold zipN at e
  cases e1 : J.nxt h i with
  | none => simp [e1] at e
  | some u =>
    cases e2 : K.nxt h i with
    | none => cases u <;> simp [e1, e2] at e
    | some v =>
      cases u with
      | none => exact ⟨none, v, rfl, rfl, .inl rfl⟩
      | some u =>
        cases v with
        | none => exact ⟨some u, none, rfl, rfl, .inr rfl⟩
        | some v => simp [e1, e2] at e
theorem me_zip {elts : List Expr} {kk : Nat} {tpos : Pos} {a b : Expr} {f g : PEnv → Hh → Rs D} {p pos : Pos} (hK : X.K = S.K) (hg : Gl X "zip") (hm : X.mg "zip" = none) (ha : PE X a (tE S f W)) (hb : PE X b (tE S g W)) (hs : starEach [a, b] X.env = (false, eval a X.env) :: starEach [b] X.env) (hs2 : starEach [b] X.env = [(false, eval b X.env)])
    (hpl : (backTo pos (starEach [b] X.env)).any (·.1) = false) :
    PI X (.Tuple elts kk tpos) (.Call (.Name "zip" p) [a, b] [] pos) (tI S (fun ρ h => (f ρ h).bind fun x h1 => (g ρ h1).bind fun y h2 => zipI false x y h2) W) := by
  refine (RZ.pi_zipA hg hm (pa_cons ha (pa_cons hb pa_nil hs2) hs) hs hpl).imp fun σ H R h => ?_
  obtain ⟨m, ρ, hh, r, q, x⟩ := h
  refine tE_first (k := fun ρ x h1 => (g ρ h1).bind fun y h2 => zipI false x y h2) r q x fun v H1 m1 h1 d r1 q1 x1 e1 p => ?_
  refine tE_first (k := fun ρ y h2 => zipI false d y h2) r1 q1 p fun v2 H2 m2 h2 d2 r2 q2 x2 e2 p2 => ?_
  have e1' := e1.mono r1 x2
  unfold zipI at p2
  split at p2
  · rename_i hok
    simp only [Bool.not_false, Bool.true_and, zipOk, Bool.or_eq_true, Bool.and_eq_true] at hok
    have tupOk : ∀ {H3 : Hp} {m3 : List Addr} {h3 : Hh} {T : Addr} {u w : D} {y z : V}, HR S m3 H3 h3 → H3 T = none → VR S m3 H3 u y → VR S m3 H3 w z → Ext m3 H3 m3 (upd H3 T (.tup [y, z])) ∧ HR S m3 (upd H3 T (.tup [y, z])) h3 ∧ VR S m3 (upd H3 T (.tup [y, z])) (.tup [u, w]) (.ref T) := fun {H3 m3 h3 T u w y z} r3 hT a1 a2 => by
      have E1 : Ext m3 H3 m3 (upd H3 T (.tup [y, z])) := Ext.new hT
      exact ⟨E1, r3.new hT, .tup upd_same (.cons (a1.mono r3 E1) (.cons (a2.mono r3 E1) .nil))⟩
    rcases hok with ⟨l1, l2⟩ | ⟨t1, t2⟩
    · obtain ⟨l1, k1⟩ := Option.isSome_iff_exists.mp l1
      obtain ⟨l2, k2⟩ := Option.isSome_iff_exists.mp l2
      obtain ⟨a1, J1, rfl, ⟨xs, sx⟩, ei1, w1⟩ := walkL r2 e1' k1
      obtain ⟨a2, J2, rfl, ⟨ys, sy⟩, ei2, w2⟩ := walkL r2 e2 k2
      rw [ei1] at p2
      simp only [Rs.bind] at p2
      rw [ei2] at p2
      simp only [Rs.bind, zipK] at p2
      refine ⟨a1, a2, xs, ys, rfl, .inl ⟨hK ▸ sx, hK ▸ sy, p2.done r2 fun m3 H3 h3 i y r3 => ⟨fun d3 e3 => ?_, fun e3 => ?_⟩⟩⟩
      · obtain ⟨u, w, g1, g2, rfl⟩ := zipN_item e3
        obtain ⟨vs, s1, f1, _⟩ := w1 m3 H3 h3 i _ y r3 g1
        obtain ⟨vs2, s2, f2, _⟩ := w2 m3 H3 h3 i _ y r3 g2
        obtain ⟨y1, b1, c1⟩ := f1 u rfl
        obtain ⟨y2, b2, c2⟩ := f2 w rfl
        refine ⟨⟨vs, vs2, y1, y2, hK ▸ s1, hK ▸ s2, b1, b2⟩, fun v H4 z => ?_⟩
        obtain ⟨T, z1, z2, rfl, hT, rfl, f3, f4⟩ := z
        have q1 := f3 vs (hK ▸ s1)
        rw [b1] at q1; cases q1
        have q2 := f4 vs2 (hK ▸ s2)
        rw [b2] at q2; cases q2
        exact tupOk r3 hT c1 c2
      · obtain ⟨u, w, g1, g2, g3⟩ := zipN_end e3
        obtain ⟨vs, s1, _, f1⟩ := w1 m3 H3 h3 i _ y r3 g1
        obtain ⟨vs2, s2, _, f2⟩ := w2 m3 H3 h3 i _ y r3 g2
        exact ⟨vs, vs2, hK ▸ s1, hK ▸ s2, g3.imp f1 f2⟩
    · obtain ⟨a1, J1, rfl, ⟨xs, sx⟩, ei1, w1⟩ := walkT r2 e1' t1
      obtain ⟨a2, J2, rfl, ⟨ys, sy⟩, ei2, w2⟩ := walkT r2 e2 t2
      rw [ei1] at p2
      simp only [Rs.bind] at p2
      rw [ei2] at p2
      simp only [Rs.bind, zipK] at p2
      refine ⟨a1, a2, xs, ys, rfl, .inr ⟨hK ▸ sx, hK ▸ sy, p2.done r2 fun m3 H3 h3 i y r3 => ⟨fun d3 e3 => ?_, fun e3 => ?_⟩⟩⟩
      · obtain ⟨u, w, g1, g2, rfl⟩ := zipN_item e3
        obtain ⟨vs, s1, f1, _⟩ := w1 m3 H3 h3 i _ y r3 g1
        obtain ⟨vs2, s2, f2, _⟩ := w2 m3 H3 h3 i _ y r3 g2
        obtain ⟨y1, b1, c1⟩ := f1 u rfl
        obtain ⟨y2, b2, c2⟩ := f2 w rfl
        refine ⟨⟨vs, vs2, y1, y2, hK ▸ s1, hK ▸ s2, b1, b2⟩, fun v H4 z => ?_⟩
        obtain ⟨T, z1, z2, rfl, hT, rfl, f3, f4⟩ := z
        have q1 := f3 vs (hK ▸ s1)
        rw [b1] at q1; cases q1
        have q2 := f4 vs2 (hK ▸ s2)
        rw [b2] at q2; cases q2
        exact tupOk r3 hT c1 c2
      · obtain ⟨u, w, g1, g2, g3⟩ := zipN_end e3
        obtain ⟨vs, s1, _, f1⟩ := w1 m3 H3 h3 i _ y r3 g1
        obtain ⟨vs2, s2, _, f2⟩ := w2 m3 H3 h3 i _ y r3 g2
        exact ⟨vs, vs2, hK ▸ s1, hK ▸ s2, g3.imp f1 f2⟩
  · exact False.elim p2
end
end MP

set_option Elab.async false
set_option linter.all false
set_option maxRecDepth 100000
set_option autoImplicit false
set_option maxHeartbeats 4000000
/-! Mp17: from the model's trees to ours. -/
namespace MP
open PySem PySem.Spec L2

inductive Gv where
  | fn (i : Nat) | cls (C : Nat) | exc (C : Nat) | exc0 (C : Nat) | con (d : D)
/-- what the names of the top mean -/
structure Gf where
  gl : List (Str × Gv)
  bl : List Str
  fl : List (Str × Nat)
  me : List (Str × Nat)
/-- where an expression stands -/
structure Cf where
  N : List Str
  sc : Scope
  cm : Bool
  px : Option Nat
  fc : Bool

def ixIn (x : Str) : List Str → Option Nat
  | [] => none
  | y :: ys => if y == x then some 0 else (ixIn x ys).map (· + 1)
theorem ixIn_at {x : Str} : ∀ {N : List Str} {i : Nat}, ixIn x N = some i → N[i]? = some x
  | [], _, e => by cases e
  | y :: ys, i, e => by
    unfold ixIn at e
    split at e
    · rename_i h
      cases e
      simp [eq_of_beq h]
    · obtain ⟨j, h1, h2⟩ := Option.map_eq_some_iff.mp e
      subst h2
      simpa using ixIn_at h1

def visC (c : Cf) (x : Str) : Bool := match c.sc.names.lookup x with
  | some .local => true
  | some .cell => true
  | some .free => true
  | _ => false
def locC (c : Cf) (x : Str) : Bool := match c.sc.names.lookup x with
  | some .local => true
  | some .cell => c.fc
  | _ => false
def glbC (c : Cf) (x : Str) : Bool := match c.sc.names.lookup x with
  | some .globalImplicit => true
  | _ => false
def dunC (x : Str) : Bool := x == ("__debug__" : Str) || x == ("__classdict__" : Str) || x == ("__name__" : Str)

def bopOf : Operator → Option Bop
  | .Add => some .add
  | .Sub => some .sub
  | .Mult => some .mul
  | .FloorDiv => some .fdiv
  | .Mod => some .mod
  | .Pow => some .pow
  | .BitAnd => some .band
  | _ => none
def copOf : CmpOp → Option Cop
  | .Eq => some .eq
  | .NotEq => some .ne
  | .Lt => some .lt
  | .LtE => some .le
  | .Gt => some .gt
  | .GtE => some .ge
  | .In => some .inn
  | .NotIn => some .nin
  | _ => none
def bfOf (x : Str) : Option Bf :=
  if x == ("len" : Str) then some .len else if x == ("abs" : Str) then some .abs else if x == ("max" : Str) then some .max else if x == ("min" : Str) then some .min
  else if x == ("int" : Str) then some .int else if x == ("str" : Str) then some .str else if x == ("list" : Str) then some .list else if x == ("tuple" : Str) then some .tuple
  else if x == ("all" : Str) then some .all else if x == ("any" : Str) then some .any else if x == ("sum" : Str) then some .sum else none
def bmOf (x : Str) : Option Bm :=
  if x == ("append" : Str) then some .append else if x == ("pop" : Str) then some .pop else if x == ("insert" : Str) then some .insert else if x == ("extend" : Str) then some .extend
  else if x == ("split" : Str) then some .split else if x == ("join" : Str) then some .join else none
def bfCalm : Bf → Bool
  | .max => true
  | .min => true
  | .all => true
  | .any => true
  | .sum => true
  | .list => true
  | .tuple => true
  | _ => false
def bmCalm : Bm → Bool
  | _ => true

def notSet : Expr → Bool
  | .Set _ _ _ => false
  | _ => true
def attrOk : Expr → Bool
  | .Call (.Name _ _) [] [] _ => false
  | _ => true
def notSlice : Expr → Bool
  | .Slice _ _ _ _ => false
  | _ => true
def notStar : Expr → Bool
  | .Starred _ _ => false
  | _ => true
def notComp : Expr → Bool
  | .ListComp _ _ _ _ => false
  | .SetComp _ _ _ _ => false
  | .DictComp _ _ _ _ _ => false
  | _ => true
def plainT : Expr → Bool
  | .UnaryOp .Not _ _ => false
  | .BoolOp _ _ _ => false
  | .IfExp _ _ _ _ => false
  | .Compare _ _ _ _ => false
  | _ => true
def isTestE : E → Bool
  | .not _ => true
  | .and _ _ => true
  | .or _ _ => true
  | .cmp _ _ _ => true
  | .chn _ _ _ _ _ => true
  | .isN _ => true
  | .notN _ => true
  | .ite _ _ _ => true
  | _ => false
def tyOf (G : Gf) (c : Cf) (x : Str) : Option Ty :=
  if dunC x || !glbC c x then none else
  match G.gl.lookup x with
  | some (.cls C) => some (.cls C)
  | some _ => none
  | none => if !G.bl.contains x then none else if x == ("int" : Str) then some .int else if x == ("bool" : Str) then some .bool else if x == ("str" : Str) then some .str else if x == ("tuple" : Str) then some .tuple else if x == ("list" : Str) then some .list else none
def tyE (G : Gf) (c : Cf) : Expr → Option Ty
  | .Name x _ => tyOf G c x
  | _ => none
def tysE (G : Gf) (c : Cf) : List Expr → Option (List Ty)
  | [] => some []
  | e :: es => match tyE G c e, tysE G c es with
    | some t, some ts => some (t :: ts)
    | _, _ => none
def blkOwn (N : List Str) : List (Str × NameKind) → List (Str × Nat)
  | [] => []
  | (x, k) :: r => match k, ixIn x N with
    | .local, some i => (x, i) :: blkOwn N r
    | .cell, some i => (x, i) :: blkOwn N r
    | _, _ => blkOwn N r
def blkCf (c : Cf) (scope : Scope) : Cf := { c with sc := relS scope c.sc, px := none, fc := false }

def cEs (f : Expr → Option E) : List Expr → Option Es
  | [] => some .nil
  | e :: es => match f e, cEs f es with
    | some a, some b => some (.cons a b)
    | _, _ => none
def cEo (f : Expr → Option E) : Option Expr → Option Eo
  | none => some .no
  | some e => (f e).map .so
mutual
def cTg (c : Cf) : Expr → Option Tg
  | .Name x _ => if locC c x then match ixIn x c.N with
      | some i => if c.px == some i then none else some (.nm i)
      | none => none
    else none
  | .Tuple es _ _ => if c.cm then (cTgs c es).map .tp else none
  | _ => none
def cTgs (c : Cf) : List Expr → Option Tgs
  | [] => some .nil
  | e :: es => match cTg c e, cTgs c es with
    | some t, some ts => some (.cons t ts)
    | _, _ => none
end
def cIt (G : Gf) (c : Cf) (f : Expr → Option E) (tg : Expr) (it : Expr) : Option It :=
  match it with
  | .Call (.Name x p) es [] pos =>
    if x == ("range" : Str) then
      if !(glbC c x && (G.gl.lookup x).isNone && G.bl.contains x) then none else
      match es with
      | [a] => match f a with
        | some a' => some (.rng1 a')
        | none => none
      | [a, b] => match f a, f b with
        | some a', some b' => some (.rng2 a' b')
        | _, _ => none
      | _ => none
    else if x == ("zip" : Str) then
      if !(glbC c x && (G.gl.lookup x).isNone && G.bl.contains x) then none else
      match tg, es with
      | .Tuple _ _ _, [a, b] => match f a, f b with
        | some a', some b' => some (.zip false a' b')
        | _, _ => none
      | _, _ => none
    else (f (.Call (.Name x p) es [] pos)).map .seq
  | it => if notSet it then (f it).map .seq else none

mutual
def cE (G : Gf) : Nat → Cf → Expr → Option E
  | 0, _, _ => none
  | n + 1, c, .Constant (.int i) _ _ => some (.int i)
  | n + 1, c, .Constant (.str s) _ _ => some (.str s)
  | n + 1, c, .Constant (.bool b) _ _ => some (.bl b)
  | n + 1, c, .Constant .none _ _ => some .non
  | n + 1, c, .Name x _ => if dunC x then none else if visC c x then (ixIn x c.N).map .slot else if glbC c x then match G.gl.lookup x with
      | some (.con d) => some (.con d)
      | some (.fn i) => some (.con (.fn i))
      | _ => none
    else none
  | n + 1, c, .BinOp a op b _ => match bopOf op, cE G n c a, cE G n c b with
    | some o, some x, some y => some (.bin o x y)
    | _, _, _ => none
  | n + 1, c, .UnaryOp .USub a _ => (cE G n c a).map .neg
  | n + 1, c, .UnaryOp .Not a _ => (cE G n c a).map .not
  | n + 1, c, .BoolOp .And [a] _ => cE G n c a
  | n + 1, c, .BoolOp .Or [a] _ => cE G n c a
  | n + 1, c, .BoolOp .And (a :: b :: r) pos => match cE G n c a, cE G n c (.BoolOp .And (b :: r) pos) with
    | some x, some y => some (.and x y)
    | _, _ => none
  | n + 1, c, .BoolOp .Or (a :: b :: r) pos => match cE G n c a, cE G n c (.BoolOp .Or (b :: r) pos) with
    | some x, some y => some (.or x y)
    | _, _ => none
  | n + 1, c, .Compare a [.Is] [.Constant .none _ _] _ => (cE G n c a).map .isN
  | n + 1, c, .Compare a [.IsNot] [.Constant .none _ _] _ => (cE G n c a).map .notN
  | n + 1, c, .Compare a [op] [b] _ => if !notSet b then none else match copOf op, cE G n c a, cE G n c b with
    | some o, some x, some y => some (.cmp o x y)
    | _, _, _ => none
  | n + 1, c, .Compare a [op, op'] [b, d] _ => if !notSet d then none else match copOf op, copOf op', cE G n c a, cE G n c b, cE G n c d with
    | some o, some o', some x, some y, some z => some (.chn o o' x y z)
    | _, _, _, _, _ => none
  | n + 1, c, .IfExp t a b _ => match cT G n c t, cE G n c a, cE G n c b with
    | some x, some y, some z => some (.ite x y z)
    | _, _, _ => none
  | n + 1, c, .Tuple es _ _ => (cEs (cE G n c) es).map .tup
  | n + 1, c, .List es _ => (cEs (cE G n c) es).map .lst
  | n + 1, c, .Subscript a (.Slice lo hi none _) _ => match cE G n c a, cEo (cE G n c) lo, cEo (cE G n c) hi with
    | some x, some y, some z => some (.sl x y z)
    | _, _, _ => none
  | n + 1, c, .Subscript a b _ => if !notSlice b then none else match cE G n c a, cE G n c b with
    | some x, some y => some (.ix x y)
    | _, _ => none
  | n + 1, c, .Call (.Name x _) es [] _ =>
    if dunC x || !glbC c x then none else
    match G.gl.lookup x with
    | some (.fn i) => if c.cm then (cEs (cE G n c) es).map (.call i) else none
    | some (.cls C) => if c.cm && !es.isEmpty then (cEs (cE G n c) es).map (.mk C) else none
    | some _ => none
    | none => if !G.bl.contains x then none else
      if x == ("isinstance" : Str) then
        match es with
        | [a, .Tuple ts _ _] => match cE G n c a, tysE G c ts with
          | some a', some ts' => if ts'.isEmpty || 100 < ts'.length then none else some (.isi a' ts')
          | _, _ => none
        | [a, t] => match cE G n c a, tyE G c t with
          | some a', some t' => some (.isi a' [t'])
          | _, _ => none
        | _ => none
      else match bfOf x with
        | some b => if (bfCalm b && !c.cm) || es.isEmpty then none else (cEs (cE G n c) es).map (.bif b)
        | none => none
  | n + 1, c, .Call (.Attribute o nm apos) es [] pos =>
    if !(attrOk o && apos.endLine == pos.line && es.length < 29 && c.cm) then none else
    match G.me.lookup nm with
    | some mi => match cE G n c o, cEs (cE G n c) es with
      | some x, some ys => some (.meth x mi ys)
      | _, _ => none
    | none => match bmOf nm with
      | some b => match cE G n c o, cEs (cE G n c) es with
        | some x, some ys => some (.bm b x ys)
        | _, _ => none
      | none => none
  | n + 1, c, .Attribute o nm _ =>
    match c.px, o with
    | some i, .Name x p => if ixIn x c.N == some i && visC c x && !dunC x then (G.fl.lookup nm).map .xf
      else match cE G n c (.Name x p), G.fl.lookup nm with
        | some x, some f => some (.fld x f)
        | _, _ => none
    | _, o => if !attrOk o then none else match cE G n c o, G.fl.lookup nm with
      | some x, some f => some (.fld x f)
      | _, _ => none
  | n + 1, c, .ListComp elt [⟨tg, iter, ifs, 0⟩] scope _ =>
    if !(c.cm && blkC c.N c.sc scope (blkOwn c.N scope.names)) then none else
    match cIt G c (cE G n c) tg iter, cTg (blkCf c scope) tg, cE G n (blkCf c scope) elt with
    | some it, some t, some x => if !((tgS t).all fun i => ((blkOwn c.N scope.names).map (·.2)).contains i) then none else
      match ifs with
      | [] => some (.lc x t it .no ((blkOwn c.N scope.names).map (·.2)))
      | [f] => match cT G n (blkCf c scope) f with
        | some y => some (.lc x t it (.so y) ((blkOwn c.N scope.names).map (·.2)))
        | none => none
      | _ => none
    | _, _, _ => none
  | _, _, _ => none
def cT (G : Gf) : Nat → Cf → Expr → Option E
  | 0, _, _ => none
  | n + 1, c, .UnaryOp .Not a _ => (cT G n c a).map .not
  | n + 1, c, .BoolOp .And [a] _ => cT G n c a
  | n + 1, c, .BoolOp .Or [a] _ => cT G n c a
  | n + 1, c, .BoolOp .And (a :: b :: r) pos => match cT G n c a, cT G n c (.BoolOp .And (b :: r) pos) with
    | some x, some y => some (.and x y)
    | _, _ => none
  | n + 1, c, .BoolOp .Or (a :: b :: r) pos => match cT G n c a, cT G n c (.BoolOp .Or (b :: r) pos) with
    | some x, some y => some (.or x y)
    | _, _ => none
  | n + 1, c, .Compare a [.Is] [.Constant .none _ _] _ => (cE G n c a).map .isN
  | n + 1, c, .Compare a [.IsNot] [.Constant .none _ _] _ => (cE G n c a).map .notN
  | n + 1, c, .Compare a [op] [b] _ => if !notSet b then none else match copOf op, cE G n c a, cE G n c b with
    | some o, some x, some y => some (.cmp o x y)
    | _, _, _ => none
  | n + 1, c, .Compare a [op, op'] [b, d] _ => if !notSet d then none else match copOf op, copOf op', cE G n c a, cE G n c b, cE G n c d with
    | some o, some o', some x, some y, some z => some (.chn o o' x y z)
    | _, _, _, _, _ => none
  | n + 1, c, .Compare _ _ _ _ => none
  | n + 1, c, .IfExp _ _ _ _ => none
  | n + 1, c, .BoolOp _ [] _ => none
  | n + 1, c, e => if !plainT e then none else match cE G n c e with
    | some r => if isTestE r then none else some r
    | none => none
end
end MP

set_option Elab.async false
set_option linter.all false
set_option maxRecDepth 100000
set_option maxHeartbeats 4000000
/-! Mp18: the evaluator's equations (printed by gen18.py). -/
namespace MP
open PySem PySem.Spec L2
section
variable (cf : Nat → List D → Hh → Rs D) (tb : Tb) (cur : Option Exn)
theorem ev_slot i : ev cf tb cur (.slot i) = slotK i := by
  funext ρ h; rw [ev]
theorem ev_int i : ev cf tb cur (.int i) = fun _ h => .ok (.int i) h := by
  funext ρ h; rw [ev]
theorem ev_str s : ev cf tb cur (.str s) = fun _ h => .ok (.str s) h := by
  funext ρ h; rw [ev]
theorem ev_bl b : ev cf tb cur (.bl b) = fun _ h => .ok (.bl b) h := by
  funext ρ h; rw [ev]
theorem ev_con d : ev cf tb cur (.con d) = fun _ h => .ok d h := by
  funext ρ h; rw [ev]
theorem ev_bin o a b : ev cf tb cur (.bin o a b) = fun ρ h => (ev cf tb cur a ρ h).bind fun x h1 => (ev cf tb cur b ρ h1).bind fun y h2 => binD o x y h2 := by
  funext ρ h; rw [ev]
theorem ev_neg a : ev cf tb cur (.neg a) = fun ρ h => (ev cf tb cur a ρ h).bind negK := by
  funext ρ h; rw [ev]
theorem ev_not a : ev cf tb cur (.not a) = fun ρ h => ((ev cf tb cur a ρ h).bind truK).bind fun b h1 => .ok (.bl (!b)) h1 := by
  funext ρ h; rw [ev]
theorem ev_and a b : ev cf tb cur (.and a b) = fun ρ h => (ev cf tb cur a ρ h).bind (andK (ev cf tb cur b ρ)) := by
  funext ρ h; rw [ev]
theorem ev_or a b : ev cf tb cur (.or a b) = fun ρ h => (ev cf tb cur a ρ h).bind (orK (ev cf tb cur b ρ)) := by
  funext ρ h; rw [ev]
theorem ev_isN a : ev cf tb cur (.isN a) = fun ρ h => (ev cf tb cur a ρ h).bind isNK := by
  funext ρ h; rw [ev]
theorem ev_notN a : ev cf tb cur (.notN a) = fun ρ h => (ev cf tb cur a ρ h).bind notNK := by
  funext ρ h; rw [ev]
theorem ev_cmp o a b : ev cf tb cur (.cmp o a b) = fun ρ h => (ev cf tb cur a ρ h).bind fun x h1 => (ev cf tb cur b ρ h1).bind fun y h2 => cmpD o x y h2 := by
  funext ρ h; rw [ev]
theorem ev_chn o o' a b c : ev cf tb cur (.chn o o' a b c) = fun ρ h => (ev cf tb cur a ρ h).bind fun x h1 => (ev cf tb cur b ρ h1).bind fun y h2 => (cmpD o x y h2).bind (andK fun h3 => (ev cf tb cur c ρ h3).bind fun u h4 => cmpD o' y u h4) := by
  funext ρ h; rw [ev]
theorem ev_ite c a b : ev cf tb cur (.ite c a b) = fun ρ h => (evT cf tb cur c ρ h).bind fun k h1 => if k then ev cf tb cur a ρ h1 else ev cf tb cur b ρ h1 := by
  funext ρ h; rw [ev]
theorem ev_tup es : ev cf tb cur (.tup es) = fun ρ h => (evs cf tb cur es ρ h).bind tupK := by
  funext ρ h; rw [ev]
theorem ev_lst es : ev cf tb cur (.lst es) = fun ρ h => (evs cf tb cur es ρ h).bind lstK := by
  funext ρ h; rw [ev]
theorem ev_ix a i : ev cf tb cur (.ix a i) = fun ρ h => (ev cf tb cur a ρ h).bind fun x h1 => (ev cf tb cur i ρ h1).bind fun y h2 => ixD x y h2 := by
  funext ρ h; rw [ev]
theorem ev_sl a lo hi : ev cf tb cur (.sl a lo hi) = fun ρ h => (ev cf tb cur a ρ h).bind fun x h1 => (evo cf tb cur lo ρ h1).bind fun l h2 => (evo cf tb cur hi ρ h2).bind fun u h3 => slD x l u h3 := by
  funext ρ h; rw [ev]
theorem ev_call f es : ev cf tb cur (.call f es) = fun ρ h => (evs cf tb cur es ρ h).bind (cf f) := by
  funext ρ h; rw [ev]
theorem ev_mk C es : ev cf tb cur (.mk C es) = fun ρ h => (evs cf tb cur es ρ h).bind (mkK cf C (tb.ini C)) := by
  funext ρ h; rw [ev]
theorem ev_meth a m es : ev cf tb cur (.meth a m es) = fun ρ h => (ev cf tb cur a ρ h).bind (methK cf tb m (evs cf tb cur es ρ)) := by
  funext ρ h; rw [ev]
theorem ev_bif b es : ev cf tb cur (.bif b es) = fun ρ h => (evs cf tb cur es ρ h).bind (bifD b) := by
  funext ρ h; rw [ev]
theorem ev_bm m a es : ev cf tb cur (.bm m a es) = fun ρ h => (ev cf tb cur a ρ h).bind (bmK m (evs cf tb cur es ρ)) := by
  funext ρ h; rw [ev]
theorem ev_isi a ts : ev cf tb cur (.isi a ts) = fun ρ h => (ev cf tb cur a ρ h).bind (isiK ts) := by
  funext ρ h; rw [ev]
theorem ev_fld a f : ev cf tb cur (.fld a f) = fun ρ h => (ev cf tb cur a ρ h).bind (fldK f) := by
  funext ρ h; rw [ev]
theorem ev_xf f : ev cf tb cur (.xf f) = fun _ h => Rs.lift (cur.bind fun e => e.fs.lookup f) h := by
  funext ρ h; rw [ev]
theorem ev_lc elt tg it c own : ev cf tb cur (.lc elt tg it c own) = fun ρ h => (evIt cf tb cur it ρ h).bind fun J h1 => lcLoop J.nxt (lcTurn tg own (evC cf tb cur c) (ev cf tb cur elt) ρ) J.fuel 0 [] h1 := by
  funext ρ h; rw [ev]
theorem ev_non : ev cf tb cur .non = fun _ h => .ok .non h := by
  funext ρ h; rw [ev]
theorem evT_not a : evT cf tb cur (.not a) = fun ρ h => (evT cf tb cur a ρ h).bind fun b h1 => .ok (!b) h1 := by
  funext ρ h; rw [evT]
theorem evT_and a b : evT cf tb cur (.and a b) = fun ρ h => (evT cf tb cur a ρ h).bind fun k h1 => if k then evT cf tb cur b ρ h1 else .ok false h1 := by
  funext ρ h; rw [evT]
theorem evT_or a b : evT cf tb cur (.or a b) = fun ρ h => (evT cf tb cur a ρ h).bind fun k h1 => if k then .ok true h1 else evT cf tb cur b ρ h1 := by
  funext ρ h; rw [evT]
theorem evT_cmp o a b : evT cf tb cur (.cmp o a b) = fun ρ h => (ev cf tb cur (.cmp o a b) ρ h).bind blK := by
  funext ρ h; rw [evT]
theorem evT_chn o o' a b c : evT cf tb cur (.chn o o' a b c) = fun ρ h => (ev cf tb cur (.chn o o' a b c) ρ h).bind blK := by
  funext ρ h; rw [evT]
theorem evT_isN a : evT cf tb cur (.isN a) = fun ρ h => (ev cf tb cur (.isN a) ρ h).bind blK := by
  funext ρ h; rw [evT]
theorem evT_notN a : evT cf tb cur (.notN a) = fun ρ h => (ev cf tb cur (.notN a) ρ h).bind blK := by
  funext ρ h; rw [evT]
theorem evT_oth {e : E} (he : isTestE e = false) : evT cf tb cur e = fun ρ h => (ev cf tb cur e ρ h).bind truK := by
  funext ρ h; cases e <;> first | (rw [evT] <;> (intros; first | contradiction | (rename_i z; cases z) | simp)) | (cases he)
theorem evC_no : evC cf tb cur .no = fun _ h => .ok true h := by
  funext ρ h; rw [evC]
theorem evC_so e : evC cf tb cur (.so e) = evT cf tb cur e := by
  funext ρ h; rw [evC]
theorem evo_no : evo cf tb cur .no = fun _ h => .ok none h := by
  funext ρ h; rw [evo]
theorem evo_so e : evo cf tb cur (.so e) = fun ρ h => (ev cf tb cur e ρ h).bind intK := by
  funext ρ h; rw [evo]
theorem evs_nil : evs cf tb cur .nil = fun _ h => .ok [] h := by
  funext ρ h; rw [evs]
theorem evs_cons e es : evs cf tb cur (.cons e es) = fun ρ h => (ev cf tb cur e ρ h).bind fun x h1 => (evs cf tb cur es ρ h1).bind fun xs h2 => .ok (x :: xs) h2 := by
  funext ρ h; rw [evs]
theorem evIt_seq e : evIt cf tb cur (.seq e) = fun ρ h => (ev cf tb cur e ρ h).bind itSeq := by
  funext ρ h; rw [evIt]
theorem evIt_rng1 e : evIt cf tb cur (.rng1 e) = fun ρ h => (ev cf tb cur e ρ h).bind rngK1 := by
  funext ρ h; rw [evIt]
theorem evIt_rng2 a b : evIt cf tb cur (.rng2 a b) = fun ρ h => (ev cf tb cur a ρ h).bind fun x h1 => (ev cf tb cur b ρ h1).bind (rngK2 x) := by
  funext ρ h; rw [evIt]
theorem evIt_zip s a b : evIt cf tb cur (.zip s a b) = fun ρ h => (ev cf tb cur a ρ h).bind fun x h1 => (ev cf tb cur b ρ h1).bind fun y h2 => zipI s x y h2 := by
  funext ρ h; rw [evIt]
end
end MP

set_option Elab.async false
set_option linter.all false
set_option maxRecDepth 100000
set_option autoImplicit false
set_option maxHeartbeats 4000000
/-! Mp19: facts of the trees; contexts. -/
namespace MP
open PySem PySem.Spec L2

theorem star_cons {e : Expr} {es : List Expr} {env : Env} (h : notStar e = true) : starEach (e :: es) env = (false, eval e env) :: starEach es env := by
  cases e <;> first | rfl | cases h
theorem star_plain {es : List Expr} {env : Env} {pos : Pos} (h : es.all notStar = true) : (backTo pos (starEach es env)).any (·.1) = false := by
  induction es with
  | nil => rfl
  | cons e es ih =>
    rw [List.all_cons, Bool.and_eq_true] at h
    rw [star_cons h.1]
    exact ih h.2
theorem star_form {es : List Expr} {env : Env} {pos : Pos} (h : es.all notStar = true) : (backTo pos (starEach es env)).all (fun x => !x.1) = true := by
  induction es with
  | nil => rfl
  | cons e es ih =>
    rw [List.all_cons, Bool.and_eq_true] at h
    rw [star_cons h.1]
    exact ih h.2
theorem call_form {es : List Expr} {env : Env} {pos : Pos} (h : es.all notStar = true) (hl : es.length < 29) : methodCallForm (es.length + ([] : List Keyword).length) (backTo pos (starEach es env)) (backToKw pos (keywordEach [] env)) = true := by
  unfold methodCallForm
  have h1 := star_form (env := env) (pos := pos) h
  rw [h1]
  show (true && true && decide (es.length + 0 + 0 < 30)) = true
  simp
  omega
theorem attr_base {e : Expr} {nm : Str} {env : Env} {w : Sem Value} (h : attrOk e = true) : attributeBase e nm env w = w := by
  unfold attributeBase
  split
  · cases h
  · rfl
theorem plain_ix {b : Expr} (h : notSlice b = true) : PlainIx b := by
  intro o i
  cases b <;> first | rfl | cases h
theorem marks_none {op : CmpOp} {b : Expr} (h : notSet b = true) : behindInMarks op b = false := by
  cases b <;> first | rfl | cases h
theorem folded_none {e : Expr} {env : Env} (h : notSet e = true) : ∀ x, foldedSetIterable e env x = pure x := by
  intro x
  cases e <;> first | rfl | cases h
theorem swaps_none {v : Expr} {t : Option Expr} {l : Nat} {env : Env} (h : notComp v = true) : swapsWith v t l env = pure false := by
  cases v <;> first | rfl | cases h
theorem assign_cons {e : Expr} {es : List Expr} {env : Env} (h : notStar e = true) : assignEach (e :: es) env = (false, assign e env) :: assignEach es env := by
  cases e <;> first | rfl | cases h

/-! ### contexts -/
structure GloA (G : Gf) (X : Cx) (S : Sta) : Prop where
  hK : X.K = S.K
  hF : ClsF S
  L : FlF S
  con : ∀ x d, G.gl.lookup x = some (.con d) → ∃ v u, X.mg x = some u ∧ RelV v u ∧ ∀ m H, VR S m H d v
  fnm : ∀ x i, G.gl.lookup x = some (.fn i) → X.mg x = some (.ref (S.fA i))
  cls : ∀ x C, G.gl.lookup x = some (.cls C) → X.mg x = some (.ref (S.cA C)) ∧ C ∈ S.cs
  bl : ∀ x, G.bl.contains x = true → X.mg x = none
  fl : ∀ nm f, G.fl.lookup nm = some f → S.fN f = nm
  no : ∀ nm f, G.fl.lookup nm = some f → ∀ c, c ∈ S.cs → NoAttr S.K (S.cA c) (S.fN f)
structure GloB (G : Gf) (X : Cx) (S : Sta) (k : Nat) (cf : Nat → List D → Hh → Rs D) (tb : Tb) : Prop where
  room : Room (k + 3) X.A
  fn : ∀ x i, G.gl.lookup x = some (.fn i) → FnF S X k cf i
  mak : ∀ x C, G.gl.lookup x = some (.cls C) → ∃ i, tb.ini C = some i ∧ FnF S X k cf i ∧ Mk X.K (S.cA C) (S.fA i)
  exc : ∀ x C, G.gl.lookup x = some (.exc C) → X.mg x = some (.ref (S.cA C)) ∧ XcF S X tb C
  exc0 : ∀ x C, G.gl.lookup x = some (.exc0 C) → X.mg x = some (.ref (S.cA C)) ∧ XcG S X tb C
  sub : ∀ E C, E ∈ S.xcs → C ∈ S.xcs → PySem.W.exmOne X.K (.ref (S.cA E)) (.ref (S.cA C)) = some (tb.sub E C)
  me : ∀ nm mi, G.me.lookup nm = some mi → MeF S X k cf tb nm mi
  calm : X.calm = true
  xs : S.xs = []
structure CtxM (G : Gf) (c : Cf) (X : Cx) (S : Sta) (W : WX) (cf : Nat → List D → Hh → Rs D) (tb : Tb) (cur : Option Exn) (k : Nat) : Prop where
  a : GloA G X S
  b : c.cm = true → GloB G X S k cf tb
  N : X.N = c.N
  nd : X.N.Nodup
  sc : X.env.scope = c.sc
  kd : c.sc.kind = .function
  un : X.A.units + 100 < cLine
  px : ∀ p ∈ S.xs, c.px = some p.1
  fc : c.fc = true → ∀ x, X.fn x = true
  tk : Takes X W
  xf : ∀ i, c.px = some i → ∀ (n : Str) (np pos : Pos) (f : Nat), X.N[i]? = some n → Vis X.env.scope n → (n == ("__debug__" : Str)) = false → (n == ("__classdict__" : Str)) = false → PE X (.Attribute (.Name n np) (S.fN f) pos) (tE S (fun _ h => Rs.lift (cur.bind fun e => e.fs.lookup f) h) W)

section
variable {G : Gf} {c : Cf} {X : Cx} {S : Sta} {W : WX} {cf : Nat → List D → Hh → Rs D} {tb : Tb} {cur : Option Exn} {k : Nat}
theorem CtxM.vis (C : CtxM G c X S W cf tb cur k) {x : Str} (h : visC c x = true) : Vis X.env.scope x := by
  unfold visC at h
  rw [C.sc]
  unfold Vis
  split at h
  · exact .inl (by assumption)
  · exact .inr (.inl (by assumption))
  · exact .inr (.inr (by assumption))
  · cases h
theorem CtxM.glb (C : CtxM G c X S W cf tb cur k) {x : Str} (h : glbC c x = true) : Gl X x := by
  unfold glbC at h
  show X.env.scope.names.lookup x = some .globalImplicit
  rw [C.sc]
  split at h
  · assumption
  · cases h
theorem CtxM.loc (C : CtxM G c X S W cf tb cur k) {x : Str} (h : locC c x = true) : Loc X.env.scope x ∧ (X.fn x = true ∨ X.env.scope.names.lookup x = some .local) := by
  unfold locC at h
  rw [C.sc]
  split at h
  · rename_i e; exact ⟨.inl e, .inr e⟩
  · rename_i e; exact ⟨.inr e, .inl (C.fc h x)⟩
  · cases h
theorem CtxM.slot (C : CtxM G c X S W cf tb cur k) {x : Str} {i : Nat} (h : ixIn x c.N = some i) : X.N[i]? = some x := by rw [C.N]; exact ixIn_at h
theorem dun_debug {x : Str} (h : dunC x = false) : (x == ("__debug__" : Str)) = false := by
  unfold dunC at h
  simp only [Bool.or_eq_false_iff] at h
  exact h.1.1
theorem dun_cd {x : Str} (h : dunC x = false) : (x == ("__classdict__" : Str)) = false := by
  unfold dunC at h
  simp only [Bool.or_eq_false_iff] at h
  exact h.1.2
theorem dun_name {x : Str} (h : dunC x = false) : x ≠ "__name__" := by
  unfold dunC at h
  simp only [Bool.or_eq_false_iff] at h
  exact ne_of_beq_false h.2

/-! ### operators -/
theorem op_of {op : Operator} {o : Bop} (h : bopOf op = some o) : OpR X (binaryOp op) (rO S (binD o)) := by
  cases op <;> first | (cases h; first | exact ob_bin .add | exact ob_bin .sub | exact ob_bin .mul | exact ob_bin .fdiv | exact ob_bin .mod | exact ob_bin .pow | exact ob_bin .band) | cases h
theorem cop_of (hK : X.K = S.K) (hu : X.A.units + 100 < cLine) {op : CmpOp} {o : Cop} (h : copOf op = some o) : OpR X (compareOp op) (rO S (cmpD o)) := by
  cases op <;> cases h
  · exact oc_eq hK (by omega)
  · exact oc_ne hK (by omega)
  · exact oc_int op_lt
  · exact oc_int op_le
  · exact oc_int op_gt
  · exact oc_int op_ge
  · exact oc_in hK (by omega) false
  · exact oc_in hK (by omega) true

/-! ### built-ins -/
theorem bf_of (hK : X.K = S.K) {x : Str} {b : Bf} (h : bfOf x = some b) (hc : bfCalm b = true → X.calm = true) :
    (∃ id, CallR X (.builtin id) (rF S (bifD b)) ∧ bootBuiltins x = some (.builtin id)) ∨ ∃ T, CallR X (.type T) (rF S (bifD b)) ∧ bootBuiltins x = some (.type T) := by
  unfold bfOf at h
  split at h
  · rename_i e; cases h; cases eq_of_beq e; exact .inl ⟨_, cb_len hK, by decide +kernel⟩
  split at h
  · rename_i e; cases h; cases eq_of_beq e; exact .inl ⟨_, cb_abs, by decide +kernel⟩
  split at h
  · rename_i e; cases h; cases eq_of_beq e; exact .inl ⟨_, cb_max (hc rfl) hK, by decide +kernel⟩
  split at h
  · rename_i e; cases h; cases eq_of_beq e; exact .inl ⟨_, cb_min (hc rfl) hK, by decide +kernel⟩
  split at h
  · rename_i e; cases h; cases eq_of_beq e; exact .inr ⟨_, cb_int, by decide +kernel⟩
  split at h
  · rename_i e; cases h; cases eq_of_beq e; exact .inr ⟨_, cb_str, by decide +kernel⟩
  split at h
  · rename_i e; cases h; cases eq_of_beq e; exact .inr ⟨_, cb_list hK, by decide +kernel⟩
  split at h
  · rename_i e; cases h; cases eq_of_beq e; exact .inr ⟨_, cb_tuple hK, by decide +kernel⟩
  split at h
  · rename_i e; cases h; cases eq_of_beq e; exact .inl ⟨_, cb_all (hc rfl) hK, by decide +kernel⟩
  split at h
  · rename_i e; cases h; cases eq_of_beq e; exact .inl ⟨_, cb_any (hc rfl) hK, by decide +kernel⟩
  split at h
  · rename_i e; cases h; cases eq_of_beq e; exact .inl ⟨_, cb_sum (hc rfl) hK, by decide +kernel⟩
  cases h
/-- what a method's name leads to -/
structure BmF (X : Cx) (S : Sta) (nm : Str) (b : Bm) : Prop where
  ex : ∃ id T, bmT b = T ∧ PlainAttrs T ∧ Slot T nm id ∧ typeOf (.builtin id) = pure (.type "method_descriptor") ∧ MtR X id (rM S (bmD b))
theorem bm_of (hK : X.K = S.K) {x : Str} {b : Bm} (h : bmOf x = some b) : BmF X S x b := by
  unfold bmOf at h
  split at h
  · rename_i e; cases h; cases eq_of_beq e; exact ⟨_, _, rfl, PySem.F.plainAttrs_list, PySem.F.slot_list_append, PySem.F.type_list_append, cm_append⟩
  split at h
  · rename_i e; cases h; cases eq_of_beq e; exact ⟨_, _, rfl, PySem.F.plainAttrs_list, PySem.F.slot_list_pop, PySem.F.type_list_pop, cm_pop⟩
  split at h
  · rename_i e; cases h; cases eq_of_beq e; exact ⟨_, _, rfl, PySem.F.plainAttrs_list, PySem.F.slot_list_insert, PySem.F.type_list_insert, cm_insert⟩
  split at h
  · rename_i e; cases h; cases eq_of_beq e; exact ⟨_, _, rfl, PySem.F.plainAttrs_list, PySem.F.slot_list_extend, PySem.F.type_list_extend, cm_extend⟩
  split at h
  · rename_i e; cases h; cases eq_of_beq e; exact ⟨_, _, rfl, PySem.F.plainAttrs_str, PySem.F.slot_str_split, PySem.F.type_str_split, cm_split⟩
  split at h
  · rename_i e; cases h; cases eq_of_beq e; exact ⟨_, _, rfl, PySem.F.plainAttrs_str, PySem.F.slot_str_join, PySem.F.type_str_join, cm_join hK⟩
  cases h
end
end MP

set_option Elab.async false
set_option linter.all false
set_option maxRecDepth 100000
set_option autoImplicit false
set_option maxHeartbeats 4000000
/-! Mp20: expressions are evaluated as our evaluator does. -/
namespace MP
open PySem PySem.Spec L2
section
variable {X : Cx} {S : Sta} {a b c : Expr} {f g k : PEnv → Hh → Rs D} {W : WX} {pos : Pos}
theorem tst_of {σ : L2.St} {H : Hp} {Q : Bool → Hp → Prop} (h : tTt S (fun ρ h => (f ρ h).bind blK) W σ H Q) : tE S f W σ H fun x H' => ∃ k, x = .bl k ∧ Q k H' := by
  obtain ⟨m, ρ, hh, r, q, p⟩ := h
  refine tE_first (k := fun _ => blK) r q p fun v H1 m1 h1 d r1 q1 x1 e1 p => ?_
  unfold blK at p
  split at p <;> try exact False.elim p
  cases e1.bl_inv
  exact ⟨_, rfl, Po.done (R := RB) p r1 rfl⟩
theorem mt_cmp {op : CmpOp} {o : D → D → Hh → Rs D} (ho : OpR X (compareOp op) (rO S o)) (n : ∀ x y h e h', o x y h ≠ .ex e h') (ha : PE X a (tE S f W)) (hb : PE X b (tE S g W)) (hm : behindInMarks op b = false) :
    PT X (.Compare a [op] [b] pos) (tTt S (fun ρ h => ((f ρ h).bind fun x h1 => (g ρ h1).bind fun y h2 => o x y h2).bind blK) W) :=
  (pt_cmpR ho ha hb hm).imp fun σ H Q h => tO_of n (tst_of (f := fun ρ h => (f ρ h).bind fun x h1 => (g ρ h1).bind fun y h2 => o x y h2) h)
theorem tC_of {o o' : D → D → Hh → Rs D} (n : ∀ x y h e h', o x y h ≠ .ex e h') (n' : ∀ x y h e h', o' x y h ≠ .ex e h') {σ : L2.St} {H : Hp} {Q : VK} (h : tE S (fun ρ h => (f ρ h).bind fun x h1 => (g ρ h1).bind fun y h2 => (o x y h2).bind (andK fun h3 => (k ρ h3).bind fun u h4 => o' y u h4)) W σ H Q) :
    tChain (rO S o) (rO S o') (tE S f W) (tE S g W) (tE S k W) σ H Q := by
  obtain ⟨m, ρ, hh, r, q, p⟩ := h
  refine tE_first (k := fun ρ x h1 => (g ρ h1).bind fun y h2 => (o x y h2).bind (andK fun h3 => (k ρ h3).bind fun u h4 => o' y u h4)) r q p fun v1 H1 m1 h1 d1 r1 q1 x1 e1 p1 => ?_
  refine tE_first (k := fun ρ y h2 => (o d1 y h2).bind (andK fun h3 => (k ρ h3).bind fun u h4 => o' y u h4)) r1 q1 p1 fun v2 H2 m2 h2 d2 r2 q2 x2 e2 p2 => ?_
  have p3 := Po.bind (R := RV S) p2
  refine ⟨m2, h2, d1, d2, r2, e1.mono r1 x2, e2, (p3.noex (WE' := fun _ _ _ => False) (fun e h' => n _ _ _ e h')).imp (fun v3 H3 ⟨m3, h3, d3, x3, r3, e3, p4⟩ => ?_) fun _ _ _ z => z⟩
  unfold andK at p4
  split at p4 <;> try exact False.elim p4
  · cases e3.bl_inv
    refine ⟨true, rfl, iteT ?_⟩
    refine tE_first (k := fun ρ u h4 => o' d2 u h4) r3 (q2.mono r2 x3) p4 fun v4 H4 m4 h4 d4 r4 q4 x4 e4 p5 => ?_
    exact ⟨m4, h4, d2, d4, r4, (e2.mono r2 x3).mono r3 x4, e4, p5.noex fun e h' => n' _ _ _ e h'⟩
  · cases e3.bl_inv
    exact ⟨false, rfl, iteF (p4.done r3 (.bl _))⟩
theorem mt_chain {op op' : CmpOp} {o o' : D → D → Hh → Rs D} (ho : OpR X (compareOp op) (rO S o)) (ho' : OpR X (compareOp op') (rO S o')) (n : ∀ x y h e h', o x y h ≠ .ex e h') (n' : ∀ x y h e h', o' x y h ≠ .ex e h')
    (ha : PE X a (tE S f W)) (hb : PE X b (tE S g W)) (hc : PE X c (tE S k W)) (hm' : behindInMarks op' c = false) :
    PT X (.Compare a [op, op'] [b, c] pos) (tTt S (fun ρ h => ((f ρ h).bind fun x h1 => (g ρ h1).bind fun y h2 => (o x y h2).bind (andK fun h3 => (k ρ h3).bind fun u h4 => o' y u h4)).bind blK) W) :=
  (pt_chain ho ho' ha hb hc (show lastMarks [op, op'] [b, c] = false from hm')).imp fun σ H Q h => tC_of n n' (tst_of (f := fun ρ h => (f ρ h).bind fun x h1 => (g ρ h1).bind fun y h2 => (o x y h2).bind (andK fun h3 => (k ρ h3).bind fun u h4 => o' y u h4)) h)
theorem mt_isN {j : Nat} {pos' : Pos} (ha : PE X a (tE S f W)) : PT X (.Compare a [.Is] [.Constant .none j pos'] pos) (tTt S (fun ρ h => ((f ρ h).bind isNK).bind blK) W) := by
  refine (pt_cmp (pc_isN ha)).imp fun σ H Q h => ?_
  obtain ⟨m, ρ, hh, r, q, p⟩ := tst_of (f := fun ρ h => (f ρ h).bind isNK) h
  refine tE_first (k := fun _ => isNK) r q p fun v H1 m1 h1 d r1 q1 x1 e1 p => ?_
  have e : decide (v = .non) = isNon d := by cases e1 <;> simp [isNon]
  rw [e]
  exact Po.done p r1 (.bl _)
theorem mt_notN {j : Nat} {pos' : Pos} (ha : PE X a (tE S f W)) : PT X (.Compare a [.IsNot] [.Constant .none j pos'] pos) (tTt S (fun ρ h => ((f ρ h).bind notNK).bind blK) W) := by
  refine (pt_cmp (pc_notN ha)).imp fun σ H Q h => ?_
  obtain ⟨m, ρ, hh, r, q, p⟩ := tst_of (f := fun ρ h => (f ρ h).bind notNK) h
  refine tE_first (k := fun _ => notNK) r q p fun v H1 m1 h1 d r1 q1 x1 e1 p => ?_
  have e : decide (v = .non) = isNon d := by cases e1 <;> simp [isNon]
  rw [e]
  exact Po.done p r1 (.bl _)
theorem me_notT (hK : X.K = S.K) (ha : PE X a (tE S f W)) : PE X (.UnaryOp .Not a pos) (tE S (fun ρ h => ((f ρ h).bind truK).bind fun b h1 => .ok (.bl (!b)) h1) W) := by
  refine (pe_notT ha).imp fun σ H Q ⟨m, ρ, hh, r, q, p⟩ => ?_
  have p' : Po S (RV S) ((f ρ hh).bind fun d h1 => (truK d h1).bind fun b h1 => .ok (.bl (!b)) h1) m H (fun c d H' => W c d σ H') Q := by
    revert p
    dsimp only
    cases f ρ hh <;> exact fun p => p
  refine tE_first (k := fun _ d h1 => (truK d h1).bind fun b h1 => .ok (D.bl (!b)) h1) r q p' fun v H1 m1 h1 d r1 q1 x1 e1 p => ?_
  unfold truK at p
  cases e : tru h1 d with
  | none => rw [e] at p; exact False.elim p
  | some k =>
    rw [e] at p
    exact ⟨k, tru_v hK r1 e1 e, Po.done p r1 (.bl _)⟩
end
section
variable {G : Gf} {cf : Nat → List D → Hh → Rs D} {tb : Tb} {k : Nat}
theorem cE_nostar {n : Nat} {c : Cf} {e : Expr} {r : E} (h : cE G n c e = some r) : notStar e = true := by
  cases e <;> first | rfl | skip
  cases n <;> (unfold cE at h; cases h)
theorem cEs_nostar {f : Expr → Option E} (hf : ∀ e r, f e = some r → notStar e = true) : ∀ {es : List Expr} {r : Es}, cEs f es = some r → es.all notStar = true
  | [], _, _ => rfl
  | e :: es, r, h => by
    unfold cEs at h
    split at h
    · rename_i a b h1 h2
      rw [List.all_cons, hf _ _ h1, cEs_nostar hf h2]; rfl
    · cases h
/-- arguments -/
theorem cEs_ok {c : Cf} {X : Cx} {S : Sta} {W : WX} {cur : Option Exn} {n : Nat} (hE : ∀ e r, cE G n c e = some r → PE X e (tE S (ev cf tb cur r) W)) : ∀ {es : List Expr} {r : Es}, cEs (cE G n c) es = some r → PA X es (tAa S (evs cf tb cur r) W)
  | [], r, h => by
    unfold cEs at h
    cases h
    rw [evs_nil]
    exact ma_nil
  | e :: es, r, h => by
    unfold cEs at h
    split at h
    · rename_i a b h1 h2
      cases h
      rw [evs_cons]
      exact ma_cons (hE _ _ h1) (cEs_ok hE h2) (star_cons (cE_nostar h1))
    · cases h
theorem cEo_ok {c : Cf} {X : Cx} {S : Sta} {W : WX} {cur : Option Exn} {n : Nat} (hE : ∀ e r, cE G n c e = some r → PE X e (tE S (ev cf tb cur r) W)) : ∀ {e : Option Expr} {r : Eo}, cEo (cE G n c) e = some r → PO X e (tOo S (evo cf tb cur r) W)
  | none, r, h => by
    unfold cEo at h
    cases h
    rw [evo_no]
    exact mo_none
  | some e, r, h => by
    unfold cEo at h
    obtain ⟨x, h1, h2⟩ := Option.map_eq_some_iff.mp h
    subst h2
    rw [evo_so]
    exact mo_some (hE _ _ h1)
/-! ### contexts within contexts -/
theorem FnF.tr {X X' : Cx} {S : Sta} {i : Nat} (h1 : X'.prog = X.prog) (h2 : X'.w = X.w) (h3 : X'.K = X.K) (h4 : X'.mg = X.mg) (h5 : X'.base = X.base) (F : FnF S X k cf i) : FnF S X' k cf i := by
  refine ⟨?_, ?_⟩
  · rw [h1, h2, h3, h4, h5]; exact F.ok
  · rw [h3]; exact F.kp
theorem GloA.tr {X X' : Cx} {S : Sta} (h3 : X'.K = X.K) (h4 : X'.mg = X.mg) (A : GloA G X S) : GloA G X' S := by
  refine ⟨?_, A.hF, A.L, ?_, ?_, ?_, ?_, A.fl, A.no⟩
  · rw [h3]; exact A.hK
  · rw [h4]; exact A.con
  · rw [h4]; exact A.fnm
  · rw [h4]; exact A.cls
  · rw [h4]; exact A.bl
theorem GloB.tr {X X' : Cx} {S : Sta} (h1 : X'.prog = X.prog) (h2 : X'.w = X.w) (h3 : X'.K = X.K) (h4 : X'.mg = X.mg) (h5 : X'.base = X.base) (h6 : X'.A = X.A) (h7 : X'.calm = X.calm) (B : GloB G X S k cf tb) : GloB G X' S k cf tb := by
  refine ⟨by rw [h6]; exact B.room, fun x i e => (B.fn x i e).tr h1 h2 h3 h4 h5, fun x C e => ?_, fun x C e => ?_, fun x C e => ?_, by rw [h3]; exact B.sub, fun nm mi e => ?_, by rw [h7]; exact B.calm, B.xs⟩
  · obtain ⟨i, a, b, d⟩ := B.mak x C e
    exact ⟨i, a, b.tr h1 h2 h3 h4 h5, by rw [h3]; exact d⟩
  · obtain ⟨a, b⟩ := B.exc x C e
    exact ⟨by rw [h4]; exact a, by rw [h3]; exact b.T, by rw [h1, h2, h3, h4, h5]; exact b.ini, b.xc⟩
  · obtain ⟨a, b⟩ := B.exc0 x C e
    exact ⟨by rw [h4]; exact a, by rw [h3]; exact b.F, by rw [h3]; exact b.kC, by rw [h3]; exact b.exC, by rw [h3]; exact b.tyC, b.xf, b.xc⟩
  · have M := B.me nm mi e
    exact ⟨fun c f a b => let ⟨u, v⟩ := M.at_ c f a b; ⟨u, v.tr h1 h2 h3 h4 h5⟩, M.no⟩
theorem CtxM.blk {c : Cf} {X : Cx} {S : Sta} {W : WX} {cur : Option Exn} {scope : Scope} {own : List (Str × Nat)} (C : CtxM G c X S W cf tb cur k) (hc : c.cm = true) (ok : BlkOk X.N X.env.scope scope own) (s : Shared) (H : Hp) (Cc : Addr) (cl : List (Str × Addr)) (fp : List Addr) :
    CtxM G (blkCf c scope) (X.blk s H scope (compEnvC scope cl Cc X.env) fp) S W0 cf tb cur k where
  a := GloA.tr (X := X) rfl rfl C.a
  b := fun _ => GloB.tr (X := X) rfl rfl rfl rfl rfl rfl rfl (C.b hc)
  N := C.N
  nd := C.nd
  sc := by
    show (compEnvC scope cl Cc X.env).scope = relS scope c.sc
    rw [← C.sc]
    rfl
  kd := ok.kind
  un := C.un
  px := by rw [(C.b hc).xs]; simp
  fc := fun z => by cases z
  tk := takes0
  xf := fun i z => by cases z
theorem tyE_ok {c : Cf} {X : Cx} {S : Sta} {W : WX} {cur : Option Exn} (C : CtxM G c X S W cf tb cur k) {e : Expr} {t : Ty} (h : tyE G c e = some t) : PE X e (tC (tyV S t)) ∧ tyIn S t = true ∧ notStar e = true := by
  unfold tyE at h
  split at h
  · rename_i x p
    refine ⟨?_, ?_, rfl⟩
    all_goals
      unfold tyOf at h
      split at h
      · cases h
      rename_i hd
      simp only [Bool.or_eq_true, Bool.not_eq_true', not_or, Bool.not_eq_false, Bool.not_eq_true] at hd
      split at h
      · rename_i C' hg
        cases h
        first
          | exact pe_glob (C.glb hd.2) (C.a.cls _ _ hg).1 rfl (dun_debug hd.1)
          | exact decide_eq_true (C.a.cls _ _ hg).2
      · cases h
      · rename_i hg
        split at h
        · cases h
        rename_i hb
        simp only [Bool.not_eq_true', Bool.not_eq_false] at hb
        have hm := C.a.bl _ hb
        split at h
        · rename_i e; cases h; cases eq_of_beq e
          first
            | exact pe_bltn (C.glb hd.2) hm (PyProof.Rows.boot_int) rfl (dun_name hd.1) (dun_debug hd.1)
            | rfl
        split at h
        · rename_i e; cases h; cases eq_of_beq e
          first
            | exact pe_bltn (C.glb hd.2) hm (PyProof.Rows.boot_bool) rfl (dun_name hd.1) (dun_debug hd.1)
            | rfl
        split at h
        · rename_i e; cases h; cases eq_of_beq e
          first
            | exact pe_bltn (C.glb hd.2) hm (PyProof.Rows.boot_str) rfl (dun_name hd.1) (dun_debug hd.1)
            | rfl
        split at h
        · rename_i e; cases h; cases eq_of_beq e
          first
            | exact pe_bltn (C.glb hd.2) hm (PyProof.Rows.boot_tuple) rfl (dun_name hd.1) (dun_debug hd.1)
            | rfl
        split at h
        · rename_i e; cases h; cases eq_of_beq e
          first
            | exact pe_bltn (C.glb hd.2) hm (PyProof.Rows.boot_list) rfl (dun_name hd.1) (dun_debug hd.1)
            | rfl
        cases h
  · cases h
theorem tysE_ok {c : Cf} {X : Cx} {S : Sta} {W : WX} {cur : Option Exn} (C : CtxM G c X S W cf tb cur k) : ∀ {es : List Expr} {ts : List Ty}, tysE G c es = some ts → Paired (fun e v => PE X e (tC v)) es (ts.map (tyV S)) ∧ ts.all (tyIn S) = true ∧ es.all notStar = true
  | [], ts, h => by
    unfold tysE at h
    cases h
    exact ⟨.nil, rfl, rfl⟩
  | e :: es, ts, h => by
    unfold tysE at h
    split at h
    · rename_i t ts' h1 h2
      cases h
      obtain ⟨a1, a2, a3⟩ := tyE_ok C h1
      obtain ⟨b1, b2, b3⟩ := tysE_ok C h2
      exact ⟨.cons a1 b1, by rw [List.all_cons, a2, b2]; rfl, by rw [List.all_cons, a3, b3]; rfl⟩
    · cases h
end
end MP

set_option Elab.async false
set_option linter.all false
set_option maxRecDepth 100000
set_option autoImplicit false
set_option maxHeartbeats 8000000
/-! Mp21: the induction. -/
namespace MP
open PySem PySem.Spec L2
section
variable {G : Gf} {cf : Nat → List D → Hh → Rs D} {tb : Tb} {k : Nat}
def SndE (G : Gf) (cf : Nat → List D → Hh → Rs D) (tb : Tb) (k n : Nat) : Prop := ∀ (c : Cf) (X : Cx) (S : Sta) (W : WX) (cur : Option Exn), CtxM G c X S W cf tb cur k → ∀ e r, cE G n c e = some r → PE X e (tE S (ev cf tb cur r) W)
def SndT (G : Gf) (cf : Nat → List D → Hh → Rs D) (tb : Tb) (k n : Nat) : Prop := ∀ (c : Cf) (X : Cx) (S : Sta) (W : WX) (cur : Option Exn), CtxM G c X S W cf tb cur k → ∀ e r, cT G n c e = some r → PT X e (tTt S (evT cf tb cur r) W) ∧ ∀ op es p, e = .BoolOp op es p → PW X e (tTt S (evT cf tb cur r) W)
mutual
theorem cTg_ok {c : Cf} {X : Cx} {S : Sta} {W : WX} {cur : Option Exn} (C : CtxM G c X S W cf tb cur k) : ∀ {e : Expr} {t : Tg}, cTg c e = some t → PG X e (tG S t) ∧ notStar e = true
  | .Name x p, t, h => by
    unfold cTg at h
    split at h
    · rename_i hl
      split at h
      · rename_i i hi
        split at h
        · cases h
        · rename_i hpx
          cases h
          obtain ⟨l1, l2⟩ := C.loc hl
          refine ⟨mg_nm (fun p hp z => hpx ?_) C.nd (C.slot hi) l1 l2, rfl⟩
          rw [C.px p hp, z]
          simp
      · cases h
    · cases h
  | .Tuple es x p, t, h => by
    unfold cTg at h
    split at h
    · rename_i hc
      obtain ⟨ts, h1, h2⟩ := Option.map_eq_some_iff.mp h
      subst h2
      obtain ⟨a1, a2, a3⟩ := cTgs_ok C h1
      exact ⟨mg_tup (C.b hc).calm C.a.hK a1 a2 a3, rfl⟩
    · cases h
  | .Constant _ _ _, _, h => by simp [cTg] at h
  | .BoolOp _ _ _, _, h => by simp [cTg] at h
  | .NamedExpr _ _ _, _, h => by simp [cTg] at h
  | .BinOp _ _ _ _, _, h => by simp [cTg] at h
  | .UnaryOp _ _ _, _, h => by simp [cTg] at h
  | .Lambda _ _ _ _, _, h => by simp [cTg] at h
  | .IfExp _ _ _ _, _, h => by simp [cTg] at h
  | .Dict _ _ _, _, h => by simp [cTg] at h
  | .Set _ _ _, _, h => by simp [cTg] at h
  | .ListComp _ _ _ _, _, h => by simp [cTg] at h
  | .SetComp _ _ _ _, _, h => by simp [cTg] at h
  | .DictComp _ _ _ _ _, _, h => by simp [cTg] at h
  | .GeneratorExp _ _ _ _, _, h => by simp [cTg] at h
  | .Await _ _, _, h => by simp [cTg] at h
  | .Yield _ _, _, h => by simp [cTg] at h
  | .YieldFrom _ _, _, h => by simp [cTg] at h
  | .Compare _ _ _ _, _, h => by simp [cTg] at h
  | .Call _ _ _ _, _, h => by simp [cTg] at h
  | .FormattedValue _ _ _ _, _, h => by simp [cTg] at h
  | .JoinedStr _ _, _, h => by simp [cTg] at h
  | .Attribute _ _ _, _, h => by simp [cTg] at h
  | .Subscript _ _ _, _, h => by simp [cTg] at h
  | .Starred _ _, _, h => by simp [cTg] at h
  | .List _ _, _, h => by simp [cTg] at h
  | .Slice _ _ _ _, _, h => by simp [cTg] at h
theorem cTgs_ok {c : Cf} {X : Cx} {S : Sta} {W : WX} {cur : Option Exn} (C : CtxM G c X S W cf tb cur k) : ∀ {es : List Expr} {ts : Tgs}, cTgs c es = some ts → PGs X es (tGs S ts) ∧ (assignEach es X.env).length = lenTs ts ∧ (assignEach es X.env).findIdx? (·.1) = none
  | [], ts, h => by
    unfold cTgs at h
    cases h
    exact ⟨mgs_nil, rfl, rfl⟩
  | e :: es, ts, h => by
    unfold cTgs at h
    split at h
    · rename_i t ts' h1 h2
      cases h
      obtain ⟨a1, a2⟩ := cTg_ok C h1
      obtain ⟨b1, b2, b3⟩ := cTgs_ok C h2
      refine ⟨mgs_cons a1 b1 ?_, ?_, ?_⟩
      · rw [assign_cons a2]; rfl
      · rw [assign_cons a2, List.length_cons, b2]; rfl
      · rw [assign_cons a2, List.findIdx?_cons, b3]; rfl
    · cases h
end
end
end MP

set_option Elab.async false
set_option linter.all false
set_option maxRecDepth 100000
set_option autoImplicit false
set_option maxHeartbeats 8000000
/-! Mp22: the steps of the induction. -/
namespace MP
open PySem PySem.Spec L2
section
variable {G : Gf} {cf : Nat → List D → Hh → Rs D} {tb : Tb} {k : Nat}
theorem cIt_ok {c : Cf} {X : Cx} {S : Sta} {W : WX} {cur : Option Exn} {n : Nat} (C : CtxM G c X S W cf tb cur k) (hE : ∀ e r, cE G n c e = some r → PE X e (tE S (ev cf tb cur r) W)) {tg iter : Expr} {it : It} (h : cIt G c (cE G n c) tg iter = some it) :
    PI X tg iter (tI S (evIt cf tb cur it) W) ∧ notSet iter = true := by
  unfold cIt at h
  split at h
  · rename_i x p es pos
    split at h
    · rename_i hx
      cases eq_of_beq hx
      split at h
      · cases h
      rename_i hg
      simp only [Bool.not_eq_true', Bool.not_eq_false, Bool.and_eq_true] at hg
      obtain ⟨⟨g1, g2⟩, g3⟩ := hg
      have hm := C.a.bl _ g3
      split at h
      · rename_i a
        split at h
        · rename_i a' h1
          cases h
          rw [evIt_rng1]
          exact ⟨me_rng1 (C.glb g1) hm (hE _ _ h1) (star_cons (cE_nostar h1)), rfl⟩
        · cases h
      · rename_i a b
        split at h
        · rename_i a' b' h1 h2
          cases h
          rw [evIt_rng2]
          exact ⟨me_rng2 (C.glb g1) hm (hE _ _ h1) (hE _ _ h2) (by rw [star_cons (cE_nostar h1), star_cons (cE_nostar h2)]; rfl) (star_cons (cE_nostar h2)), rfl⟩
        · cases h
      · cases h
    split at h
    · rename_i hx
      cases eq_of_beq hx
      split at h
      · cases h
      rename_i hg
      simp only [Bool.not_eq_true', Bool.not_eq_false, Bool.and_eq_true] at hg
      obtain ⟨⟨g1, g2⟩, g3⟩ := hg
      have hm := C.a.bl _ g3
      split at h
      · rename_i a b
        split at h
        · rename_i a' b' h1 h2
          cases h
          rw [evIt_zip]
          refine ⟨me_zip C.a.hK (C.glb g1) hm (hE _ _ h1) (hE _ _ h2) (star_cons (cE_nostar h1)) (star_cons (cE_nostar h2)) (star_plain ?_), rfl⟩
          rw [List.all_cons, cE_nostar h2]; rfl
        · cases h
      · cases h
    · obtain ⟨a, h1, h2⟩ := Option.map_eq_some_iff.mp h
      subst h2
      rw [evIt_seq]
      exact ⟨me_seq C.a.hK (hE _ _ h1), rfl⟩
  · split at h
    · rename_i hs
      obtain ⟨a, h1, h2⟩ := Option.map_eq_some_iff.mp h
      subst h2
      rw [evIt_seq]
      exact ⟨me_seq C.a.hK (hE _ _ h1), hs⟩
    · cases h
theorem all_tail {e : Expr} {es : List Expr} (h : (e :: es).all notStar = true) : notStar e = true ∧ es.all notStar = true := by
  rw [List.all_cons, Bool.and_eq_true] at h
  exact h
theorem sndE_step {n : Nat} (hE : SndE G cf tb k n) (hT : SndT G cf tb k n) : SndE G cf tb k (n + 1) := by
  intro c X S W cur C e r h
  have PEn : ∀ e r, cE G n c e = some r → PE X e (tE S (ev cf tb cur r) W) := hE c X S W cur C
  have PTn : ∀ e r, cT G n c e = some r → PT X e (tTt S (evT cf tb cur r) W) := fun e r h => (hT c X S W cur C e r h).1
  unfold cE at h
  split at h
  case h_1 => cases h
  case h_2 => cases h; rw [ev_int]; exact me_con pe_int fun _ _ => .int _
  case h_3 => cases h; rw [ev_str]; exact me_con pe_str fun _ _ => .str _
  case h_4 => cases h; rw [ev_bl]; exact me_con pe_bl fun _ _ => .bl _
  case h_5 => cases h; rw [ev_non]; exact me_con pe_non fun _ _ => .non
  case h_6 =>
    rename_i m x p heq
    split at h
    · cases h
    rename_i hd
    simp only [Bool.not_eq_true] at hd
    split at h
    · rename_i hv
      obtain ⟨i, h1, h2⟩ := Option.map_eq_some_iff.mp h
      subst h2
      rw [ev_slot]
      exact me_slot (C.slot h1) (C.vis hv) (dun_debug hd) (dun_cd hd)
    split at h
    · rename_i hg
      split at h
      · rename_i d hgl
        cases h
        rw [ev_con]
        obtain ⟨v, u, a1, a2, a3⟩ := C.a.con _ _ hgl
        exact me_con (pe_glob (C.glb hg) a1 a2 (dun_debug hd)) a3
      · rename_i i hgl
        cases h
        rw [ev_con]
        exact me_con (pe_glob (v := .ref (S.fA i)) (C.glb hg) (C.a.fnm _ _ hgl) rfl (dun_debug hd)) fun _ _ => .fn i
      · cases h
    · cases h
  case h_7 =>
    rename_i m a op b p heq
    cases heq
    split at h
    · rename_i o x y h1 h2 h3
      cases h
      rw [ev_bin]
      exact me_bin (op_of h1) (binD_nx o) (PEn _ _ h2) (PEn _ _ h3)
    · cases h
  case h_8 =>
    rename_i m a p heq
    cases heq
    obtain ⟨x, h1, h2⟩ := Option.map_eq_some_iff.mp h
    subst h2
    rw [ev_neg]
    exact me_neg (PEn _ _ h1)
  case h_9 =>
    rename_i m a p heq
    cases heq
    obtain ⟨x, h1, h2⟩ := Option.map_eq_some_iff.mp h
    subst h2
    rw [ev_not]
    exact me_notT C.a.hK (PEn _ _ h1)
  case h_10 => rename_i m a p heq; cases heq; exact pe_one (PEn _ _ h)
  case h_11 => rename_i m a p heq; cases heq; exact pe_one (PEn _ _ h)
  case h_12 =>
    rename_i m a b r' p heq
    cases heq
    split at h
    · rename_i x y h1 h2
      cases h
      rw [ev_and]
      exact me_and (PEn _ _ h1) (PEn _ _ h2)
    · cases h
  case h_13 =>
    rename_i m a b r' p heq
    cases heq
    split at h
    · rename_i x y h1 h2
      cases h
      rw [ev_or]
      exact me_or (PEn _ _ h1) (PEn _ _ h2)
    · cases h
  case h_14 =>
    rename_i m a j p1 p heq
    cases heq
    obtain ⟨x, h1, h2⟩ := Option.map_eq_some_iff.mp h
    subst h2
    rw [ev_isN]
    exact me_isN (PEn _ _ h1)
  case h_15 =>
    rename_i m a j p1 p heq
    cases heq
    obtain ⟨x, h1, h2⟩ := Option.map_eq_some_iff.mp h
    subst h2
    rw [ev_notN]
    exact me_notN (PEn _ _ h1)
  case h_16 =>
    rename_i m a op b p _ _ heq
    cases heq
    split at h
    · cases h
    rename_i hs
    simp only [Bool.not_eq_true', Bool.not_eq_false] at hs
    split at h
    · rename_i o x y h1 h2 h3
      cases h
      rw [ev_cmp]
      exact me_cmp (cop_of C.a.hK C.un h1) (cmpD_nx o) (PEn _ _ h2) (PEn _ _ h3) (marks_none hs)
    · cases h
  case h_17 =>
    rename_i m a op op' b d p heq
    cases heq
    split at h
    · cases h
    rename_i hs
    simp only [Bool.not_eq_true', Bool.not_eq_false] at hs
    split at h
    · rename_i o o' x y z h1 h2 h3 h4 h5
      cases h
      rw [ev_chn]
      exact me_chain (cop_of C.a.hK C.un h1) (cop_of C.a.hK C.un h2) (cmpD_nx o) (cmpD_nx o') (PEn _ _ h3) (PEn _ _ h4) (PEn _ _ h5) (marks_none hs)
    · cases h
  case h_18 =>
    rename_i m t a b p heq
    cases heq
    split at h
    · rename_i x y z h1 h2 h3
      cases h
      rw [ev_ite]
      exact me_ite (PTn _ _ h1) (PEn _ _ h2) (PEn _ _ h3)
    · cases h
  case h_19 =>
    rename_i m es j p heq
    cases heq
    obtain ⟨x, h1, h2⟩ := Option.map_eq_some_iff.mp h
    subst h2
    rw [ev_tup]
    exact me_tup (cEs_ok PEn h1)
  case h_20 =>
    rename_i m es p heq
    cases heq
    obtain ⟨x, h1, h2⟩ := Option.map_eq_some_iff.mp h
    subst h2
    rw [ev_lst]
    exact me_lst (cEs_ok PEn h1)
  case h_21 =>
    rename_i m a lo hi p1 p heq
    cases heq
    split at h
    · rename_i x y z h1 h2 h3
      cases h
      rw [ev_sl]
      exact me_sl C.a.hK (PEn _ _ h1) (cEo_ok PEn h2) (cEo_ok PEn h3)
    · cases h
  case h_22 =>
    rename_i m a b p _ heq
    cases heq
    split at h
    · cases h
    rename_i hs
    simp only [Bool.not_eq_true', Bool.not_eq_false] at hs
    split at h
    · rename_i x y h1 h2
      cases h
      rw [ev_ix]
      exact me_ix C.a.hK (PEn _ _ h1) (PEn _ _ h2) (plain_ix hs)
    · cases h
  case h_23 =>
    rename_i m x p1 es p heq
    cases heq
    split at h
    · cases h
    rename_i hd
    simp only [Bool.or_eq_true, Bool.not_eq_true', not_or, Bool.not_eq_false, Bool.not_eq_true] at hd
    obtain ⟨hd, hg⟩ := hd
    split at h
    · rename_i i hgl
      split at h
      · rename_i hc
        obtain ⟨y, h1, h2⟩ := Option.map_eq_some_iff.mp h
        subst h2
        have B := C.b hc
        have ns := cEs_nostar (fun e r h => cE_nostar h) h1
        rw [ev_call]
        cases es with
        | nil =>
          unfold cEs at h1
          cases h1
          rw [evs_nil]
          exact me_call0 C.tk (B.fn _ _ hgl) (B.room.mono (Nat.le_add_right _ _)) (C.glb hg) (C.a.fnm _ _ hgl) (dun_debug hd)
        | cons e es =>
          exact me_call C.tk (B.fn _ _ hgl) (B.room.mono (Nat.le_add_right _ _)) (C.glb hg) (C.a.fnm _ _ hgl) (dun_debug hd) (cEs_ok PEn h1) (star_cons (all_tail ns).1) (star_plain (all_tail ns).2)
      · cases h
    · rename_i Cc hgl
      split at h
      · rename_i hc
        simp only [Bool.and_eq_true] at hc
        obtain ⟨y, h1, h2⟩ := Option.map_eq_some_iff.mp h
        subst h2
        have B := C.b hc.1
        have ns := cEs_nostar (fun e r h => cE_nostar h) h1
        obtain ⟨i, m1, m2, m3⟩ := B.mak _ _ hgl
        rw [ev_mk]
        cases es with
        | nil => simp at hc
        | cons e es =>
          exact me_mk C.tk m2 m3 (C.a.cls _ _ hgl).2 m1 (B.room.mono (by omega)) (C.glb hg) (C.a.cls _ _ hgl).1 (dun_debug hd) (cEs_ok PEn h1) (star_cons (all_tail ns).1) (star_plain (all_tail ns).2)
      · cases h
    · cases h
    · rename_i hgl
      split at h
      · cases h
      rename_i hb
      simp only [Bool.not_eq_true', Bool.not_eq_false] at hb
      have hm := C.a.bl _ hb
      split at h
      · rename_i hx
        cases eq_of_beq hx
        split at h
        · rename_i a ts xk tp
          split at h
          · rename_i a' ts' h1 h2
            split at h
            · cases h
            rename_i hz
            cases h
            simp only [Bool.or_eq_true, decide_eq_true_eq, not_or, Bool.not_eq_true] at hz
            obtain ⟨t1, t2, t3⟩ := tysE_ok C h2
            rw [ev_isi]
            refine me_isiT C.a.hF C.a.hK (C.glb hg) hm t2 (fun z => by rw [z] at hz; simp at hz) (by omega) (PEn _ _ h1) (pa_cls t1 fun e es' => ?_) (star_cons (cE_nostar h1))
            by_cases hm2 : e ∈ ts
            · exact .inl (star_cons (List.all_eq_true.mp t3 _ hm2))
            · exact .inr hm2
          · cases h
        · rename_i a t _
          split at h
          · rename_i a' t' h1 h2
            cases h
            obtain ⟨t1, t2, t3⟩ := tyE_ok C h2
            rw [ev_isi]
            exact me_isi1 C.a.hF C.a.hK (C.glb hg) hm t2 (PEn _ _ h1) t1 (star_cons (cE_nostar h1)) (star_cons t3)
          · cases h
        · cases h
      · split at h
        · rename_i b hbf
          split at h
          · cases h
          rename_i hz
          simp only [Bool.or_eq_true, Bool.and_eq_true, Bool.not_eq_true', not_or, not_and, Bool.not_eq_false, Bool.not_eq_true] at hz
          obtain ⟨y, h1, h2⟩ := Option.map_eq_some_iff.mp h
          subst h2
          have ns := cEs_nostar (fun e r h => cE_nostar h) h1
          rw [ev_bif]
          cases es with
          | nil => simp at hz
          | cons e es =>
            rcases bf_of C.a.hK hbf (fun hc => (C.b (hz.1 hc)).calm) with ⟨id, q1, q2⟩ | ⟨T, q1, q2⟩
            · exact me_callB (id := x) q1 (bifD_nx b) (C.glb hg) hm q2 (cEs_ok PEn h1) (dun_name hd) (dun_debug hd) (star_cons (all_tail ns).1) (star_plain (all_tail ns).2)
            · exact me_callT q1 (bifD_nx b) (C.glb hg) hm q2 (cEs_ok PEn h1) (dun_name hd) (dun_debug hd) (star_cons (all_tail ns).1) (star_plain (all_tail ns).2)
        · cases h
  case h_24 =>
    rename_i m o nm apos es p heq
    cases heq
    split at h
    · cases h
    rename_i hq
    simp only [Bool.not_eq_true', Bool.not_eq_false, Bool.and_eq_true, decide_eq_true_eq] at hq
    obtain ⟨⟨⟨q1, q2⟩, q3⟩, q4⟩ := hq
    have B := C.b q4
    split at h
    · rename_i mi hme
      split at h
      · rename_i x ys h1 h2
        cases h
        have ns := cEs_nostar (fun e r h => cE_nostar h) h2
        rw [ev_meth]
        refine me_meth C.a.hF C.a.hK C.tk (B.me _ _ hme) (B.room.mono (Nat.le_add_right _ _)) (PEn _ _ h1) (cEs_ok PEn h2) (attr_base q1) q2 (call_form ns q3) ?_
        cases es with
        | nil =>
          unfold cEs at h2
          cases h2
          rw [evs_nil]
          exact .inl ⟨rfl, rfl⟩
        | cons e es => exact .inr ⟨e, es, rfl, star_cons (all_tail ns).1, star_plain (all_tail ns).2⟩
      · cases h
    · split at h
      · rename_i b hbm
        split at h
        · rename_i x ys h1 h2
          cases h
          have ns := cEs_nostar (fun e r h => cE_nostar h) h2
          obtain ⟨id, T, e1, e2, e3, e4, e5⟩ := (bm_of (X := X) (S := S) C.a.hK hbm).ex
          rw [ev_bm]
          cases es with
          | nil =>
            unfold cEs at h2
            cases h2
            rw [evs_nil]
            exact me_bm0 C.a.hK e1 e2 e3 e4 e5 (PEn _ _ h1) (attr_base q1) q2
          | cons e es =>
            refine me_bm C.a.hK e1 e2 e3 e4 e5 (PEn _ _ h1) (cEs_ok PEn h2) (attr_base q1) ?_ q2 (star_cons (all_tail ns).1) (star_plain (all_tail ns).2)
            rw [star_form ns]
            show (true && true && decide ((e :: es).length + 0 + 0 < 30)) = true
            simp
            simp at q3
            omega
        · cases h
      · cases h
  case h_25 =>
    rename_i m o nm p heq
    cases heq
    split at h
    · rename_i i x px hpx
      split at h
      · rename_i hq
        simp only [Bool.and_eq_true, Bool.not_eq_true', beq_iff_eq] at hq
        obtain ⟨⟨z1, z2⟩, z3⟩ := hq
        obtain ⟨f, h1, h2⟩ := Option.map_eq_some_iff.mp h
        subst h2
        rw [ev_xf, ← C.a.fl _ _ h1]
        exact C.xf i hpx x px p f (C.slot z1) (C.vis z2) (dun_debug z3) (dun_cd z3)
      · split at h
        · rename_i y f h1 h2
          cases h
          rw [ev_fld, ← C.a.fl _ _ h2]
          exact me_fld C.a.hF C.a.L (C.a.no _ _ h2) C.a.hK (PEn _ _ h1) rfl
        · cases h
    · split at h
      · cases h
      rename_i hq
      simp only [Bool.not_eq_true', Bool.not_eq_false] at hq
      split at h
      · rename_i y f h1 h2
        cases h
        rw [ev_fld, ← C.a.fl _ _ h2]
        exact me_fld C.a.hF C.a.L (C.a.no _ _ h2) C.a.hK (PEn _ _ h1) (attr_base hq)
      · cases h
  case h_26 =>
    rename_i c _ _ _ m elt tg iter ifs scope p heq
    cases heq
    split at h
    · cases h
    rename_i hq
    simp only [Bool.not_eq_true', Bool.not_eq_false, Bool.and_eq_true] at hq
    have B := C.b hq.1
    have ok : BlkOk X.N X.env.scope scope (blkOwn c.N scope.names) := by rw [C.N, C.sc]; exact blkOk_by hq.2
    split at h
    · rename_i it t x h1 h2 h3
      obtain ⟨i1, i2⟩ := cIt_ok C PEn h1
      split at h
      · cases h
      rename_i hown
      simp only [Bool.not_eq_true', Bool.not_eq_false, List.all_eq_true] at hown
      have ho : ∀ i ∈ tgS t, i ∈ (blkOwn c.N scope.names).map (·.2) := fun i hi => by simpa using hown i hi
      have Cb := fun s H Cc cl fp => C.blk hq.1 ok s H Cc cl fp
      split at h
      · cases h
        rw [ev_lc]
        refine me_lc B.xs B.calm C.nd i1 ok ho (fun s H Cc cl fp => (cTg_ok (Cb s H Cc cl fp) h2).1) (fun s H Cc cl fp => ?_) (fun s H Cc cl fp => hE _ _ _ _ cur (Cb s H Cc cl fp) _ _ h3) (folded_none i2)
        rw [evC_no]
        exact mts_nil
      · rename_i f
        split at h
        · rename_i y h4
          cases h
          rw [ev_lc]
          refine me_lc B.xs B.calm C.nd i1 ok ho (fun s H Cc cl fp => (cTg_ok (Cb s H Cc cl fp) h2).1) (fun s H Cc cl fp => ?_) (fun s H Cc cl fp => hE _ _ _ _ cur (Cb s H Cc cl fp) _ _ h3) (folded_none i2)
          rw [evC_so]
          exact mts_one (hT _ _ _ _ cur (Cb s H Cc cl fp) _ _ h4).1
        · cases h
      · cases h
    · cases h
  case h_27 => cases h
end
end MP

set_option Elab.async false
set_option linter.all false
set_option maxRecDepth 100000
set_option autoImplicit false
set_option maxHeartbeats 8000000
/-! Mp23: tests; the end of the induction. -/
namespace MP
open PySem PySem.Spec L2
section
variable {G : Gf} {cf : Nat → List D → Hh → Rs D} {tb : Tb} {k : Nat}
theorem isTrue_plain {e : Expr} {env : Env} (h : plainT e = true) : ∀ whole, isTrue e env whole = (do let v ← whole; standAt e.pos; holding [v] (truthy v)) := by
  intro whole
  cases e
  case UnaryOp op a p =>
    cases op
    case Not => cases h
    all_goals rfl
  all_goals first | rfl | cases h
theorem sndT_step {n : Nat} (hE : SndE G cf tb k n) (hT : SndT G cf tb k n) : SndT G cf tb k (n + 1) := by
  intro c X S W cur C e r h
  have PEn : ∀ e r, cE G n c e = some r → PE X e (tE S (ev cf tb cur r) W) := hE c X S W cur C
  have PTn : ∀ e r, cT G n c e = some r → PT X e (tTt S (evT cf tb cur r) W) := fun e r h => (hT c X S W cur C e r h).1
  have PWn : ∀ op es p r, cT G n c (.BoolOp op es p) = some r → PW X (.BoolOp op es p) (tTt S (evT cf tb cur r) W) := fun op es p r h => (hT c X S W cur C _ r h).2 op es p rfl
  unfold cT at h
  split at h
  case h_1 => cases h
  case h_2 =>
    rename_i m a p heq
    cases heq
    obtain ⟨x, h1, h2⟩ := Option.map_eq_some_iff.mp h
    subst h2
    refine ⟨?_, fun _ _ _ z => by cases z⟩
    rw [evT_not]
    exact mt_not (PTn _ _ h1)
  case h_3 =>
    rename_i m a p heq
    cases heq
    have w := mw_and1 (pos := p) (PTn _ _ h)
    exact ⟨w.pt, fun _ _ _ z => by cases z; exact w⟩
  case h_4 =>
    rename_i m a p heq
    cases heq
    have w := mw_or1 (pos := p) (PTn _ _ h)
    exact ⟨w.pt, fun _ _ _ z => by cases z; exact w⟩
  case h_5 =>
    rename_i m a b r' p heq
    cases heq
    split at h
    · rename_i x y h1 h2
      cases h
      rw [evT_and]
      have w := mw_and (pos := p) (PTn _ _ h1) (PWn _ _ _ _ h2)
      exact ⟨w.pt, fun _ _ _ z => by cases z; exact w⟩
    · cases h
  case h_6 =>
    rename_i m a b r' p heq
    cases heq
    split at h
    · rename_i x y h1 h2
      cases h
      rw [evT_or]
      have w := mw_or (pos := p) (PTn _ _ h1) (PWn _ _ _ _ h2)
      exact ⟨w.pt, fun _ _ _ z => by cases z; exact w⟩
    · cases h
  case h_7 =>
    rename_i m a j p1 p heq
    cases heq
    obtain ⟨x, h1, h2⟩ := Option.map_eq_some_iff.mp h
    subst h2
    refine ⟨?_, fun _ _ _ z => by cases z⟩
    rw [evT_isN, ev_isN]
    exact mt_isN (PEn _ _ h1)
  case h_8 =>
    rename_i m a j p1 p heq
    cases heq
    obtain ⟨x, h1, h2⟩ := Option.map_eq_some_iff.mp h
    subst h2
    refine ⟨?_, fun _ _ _ z => by cases z⟩
    rw [evT_notN, ev_notN]
    exact mt_notN (PEn _ _ h1)
  case h_9 =>
    rename_i m a op b p _ _ heq
    cases heq
    split at h
    · cases h
    rename_i hs
    simp only [Bool.not_eq_true', Bool.not_eq_false] at hs
    split at h
    · rename_i o x y h1 h2 h3
      cases h
      refine ⟨?_, fun _ _ _ z => by cases z⟩
      rw [evT_cmp, ev_cmp]
      exact mt_cmp (cop_of C.a.hK C.un h1) (cmpD_nx o) (PEn _ _ h2) (PEn _ _ h3) (marks_none hs)
    · cases h
  case h_10 =>
    rename_i m a op op' b d p heq
    cases heq
    split at h
    · cases h
    rename_i hs
    simp only [Bool.not_eq_true', Bool.not_eq_false] at hs
    split at h
    · rename_i o o' x y z h1 h2 h3 h4 h5
      cases h
      refine ⟨?_, fun _ _ _ z => by cases z⟩
      rw [evT_chn, ev_chn]
      exact mt_chain (cop_of C.a.hK C.un h1) (cop_of C.a.hK C.un h2) (cmpD_nx o) (cmpD_nx o') (PEn _ _ h3) (PEn _ _ h4) (PEn _ _ h5) (marks_none hs)
    · cases h
  case h_11 => cases h
  case h_12 => cases h
  case h_13 => cases h
  case h_14 =>
    rename_i n' heq _ _ _ _ _ _ _ _ _ _ _ _
    cases heq
    split at h
    · cases h
    rename_i hp
    simp only [Bool.not_eq_true', Bool.not_eq_false] at hp
    split at h
    · rename_i r' h1
      split at h
      · cases h
      rename_i ht
      cases h
      simp only [Bool.not_eq_true] at ht
      refine ⟨?_, fun _ _ _ z => by rw [z] at hp; cases hp⟩
      rw [evT_oth cf tb cur ht]
      exact mt_truth C.a.hK (PEn _ _ h1) (isTrue_plain hp)
    · cases h
theorem snd_all (n : Nat) : SndE G cf tb k n ∧ SndT G cf tb k n := by
  induction n with
  | zero =>
    constructor
    · intro c X S W cur C e r h
      unfold cE at h
      cases h
    · intro c X S W cur C e r h
      unfold cT at h
      cases h
  | succ n ih => exact ⟨sndE_step ih.1 ih.2, sndT_step ih.1 ih.2⟩
theorem cE_ok {n : Nat} {c : Cf} {X : Cx} {S : Sta} {W : WX} {cur : Option Exn} (C : CtxM G c X S W cf tb cur k) {e : Expr} {r : E} (h : cE G n c e = some r) : PE X e (tE S (ev cf tb cur r) W) := (snd_all n).1 c X S W cur C e r h
theorem cT_ok {n : Nat} {c : Cf} {X : Cx} {S : Sta} {W : WX} {cur : Option Exn} (C : CtxM G c X S W cf tb cur k) {e : Expr} {r : E} (h : cT G n c e = some r) : PT X e (tTt S (evT cf tb cur r) W) := ((snd_all n).2 c X S W cur C e r h).1
end
end MP

set_option Elab.async false
set_option linter.all false
set_option maxRecDepth 100000
set_option autoImplicit false
set_option maxHeartbeats 8000000
/-! Mp24: statements, from the model's trees to ours. -/
namespace MP
open PySem PySem.Spec L2

/-- how deep an expression may be -/
abbrev EF : Nat := 40
/-- what swappedStores answers for a tuple to a tuple: none = beyond, some none = no names -/
def swpE (c : Cf) (ts vs : List Expr) : Option (Option (List Str)) :=
  if !(ts.length == 2 || ts.length == 3) || vs.length != ts.length then some none
  else if (vs.any fun | .Starred .. => true | _ => false) then some none
  else
    let line := (ts.head?.map (·.pos.line)).getD 0
    let names := ts.filterMap fun
      | .Name id pos => if c.sc.names.lookup id == some .local && pos.line == line then some id else none
      | _ => none
    if names.length != ts.length || names.eraseDups.length != names.length then some none
    else if vs.all (foldedForSure 8) then some none
    else if vs.all (constantsAlone 8) then none
    else some (some names)
/-- is the plain rule for an assignment right -/
def asgOk (c : Cf) (tg v : Expr) : Bool := match tg, v with
  | .Tuple ts _ _, .Tuple vs _ _ => match swpE c ts vs with
    | some none => true
    | some (some [x, y]) => match ts, vs with
      | [.Name x' _, .Name y' _], [_, _] => x == x' && y == y' && c.cm && (x' != y') && (match c.sc.names.lookup x' with | some .local => true | _ => false) && (match c.sc.names.lookup y' with | some .local => true | _ => false)
      | _, _ => false
    | _ => false
  | .Tuple _ _ _, _ => true
  | .Name _ _, _ => true
  | _, _ => false

def cCl (G : Gf) (c : Cf) (x : Str) : Option Nat := if dunC x || !glbC c x then none else match G.gl.lookup x with
  | some (.exc C) => some C
  | some (.exc0 C) => some C
  | _ => none
def suCf (c : Cf) (px : Option Nat) : Cf := { c with cm := false, px := px }
mutual
def cS (G : Gf) : Nat → Cf → Stmt → Option S
  | 0, _, _ => none
  | n + 1, c, .Assign [.Attribute o f _] v _ => if !notStar v then none else match cE G EF c o, cE G EF c v, G.fl.lookup f with
    | some o', some v', some f' => some (.fst o' f' v')
    | _, _, _ => none
  | n + 1, c, .Assign [.Subscript o i _] v _ => if !notSlice i then none else match cE G EF c o, cE G EF c i, cE G EF c v with
    | some o', some i', some v' => some (.ixs o' i' v')
    | _, _, _ => none
  | n + 1, c, .Assign [tg] v _ => if !asgOk c tg v then none else match cTg c tg, cE G EF c v with
    | some t, some x => some (.asg t x)
    | _, _ => none
  | n + 1, c, .Expr v _ => if !notComp v then none else (cE G EF c v).map .exp
  | n + 1, c, .Return (some v) _ => (cE G EF c v).map .ret
  | n + 1, c, .Return none _ => some .retn
  | n + 1, c, .If t a b _ => match cT G EF c t, cSs G n c a, cSs G n c b with
    | some x, some y, some z => some (.ife x y z)
    | _, _, _ => none
  | n + 1, c, .While t b [] _ => if !c.cm then none else match cT G EF c t, cSs G n c b with
    | some x, some y => some (.whl x y)
    | _, _ => none
  | n + 1, c, .For tg it b [] _ => if !c.cm then none else match cTg c tg, cIt G c (cE G EF c) tg it, cSs G n c b with
    | some t, some i, some y => some (.for_ t i y)
    | _, _, _ => none
  | n + 1, c, .Pass _ => some .pass
  | n + 1, c, .Break _ => some .brk
  | n + 1, c, .Continue _ => some .cont
  | n + 1, c, .Raise (some (.Call (.Name x _) es [] _)) none _ =>
    if !c.cm || dunC x || !glbC c x then none else
    match G.gl.lookup x with
    | some (.exc C) => if es.isEmpty then none else (cEs (cE G EF c) es).map (.rai C)
    | some (.exc0 C) => match es with
      | [.Constant (.str _) _ _] => some (.rai C .nil)
      | _ => none
    | _ => none
  | n + 1, c, .Try b (h :: hs) [] [] _ => if !c.cm || c.px.isSome then none else match cSs G n c b, cHs G n c (h :: hs) with
    | some x, some y => some (.try_ x y)
    | _, _ => none
  | _, _, _ => none
def cSs (G : Gf) : Nat → Cf → List Stmt → Option Ss
  | 0, _, _ => none
  | n + 1, c, [] => some .nil
  | n + 1, c, s :: ss => match cS G n c s, cSs G n c ss with
    | some x, some y => some (.cons x y)
    | _, _ => none
def cHs (G : Gf) : Nat → Cf → List ExceptHandler → Option Hs
  | 0, _, _ => none
  | n + 1, c, [] => some .nil
  | n + 1, c, .ExceptHandler (some (.Name x _)) none (b₀ :: su) _ :: hs => match cCl G c x, cSs G n (suCf c none) (b₀ :: su), cHs G n c hs with
    | some C, some y, some z => some (.cons C none y z)
    | _, _, _ => none
  | n + 1, c, .ExceptHandler (some (.Name x _)) (some nm) (b₀ :: su) _ :: hs =>
    match (match c.sc.names.lookup nm with | some .local => ixIn nm c.N | _ => none), cCl G c x with
    | some i, some C => match cSs G n (suCf c (some i)) (b₀ :: su), cHs G n c hs with
      | some y, some z => some (.cons C (some i) y z)
      | _, _ => none
    | _, _ => none
  | _, _, _ => none
end

theorem swp_ok {c : Cf} {env : Env} (hs : env.scope = c.sc) (hk : c.sc.kind = .function) {ts vs : List Expr} {k1 k2 : Nat} {p1 p2 : Pos} {r : Option (List Str)} (h : swpE c ts vs = some r) : swappedStores [.Tuple ts k1 p1] (.Tuple vs k2 p2) env = pure r := by
  have hb : (env.blockKind != .function) = false := by
    unfold Env.blockKind
    rw [hs, hk]
    rfl
  have hko : ∀ id, env.kindOf id = c.sc.names.lookup id := fun id => by
    show env.scope.names.lookup id = _
    rw [hs]
  unfold swappedStores
  simp only [hko, hb, Bool.or_false]
  unfold swpE at h
  split at h
  · rename_i h1; cases h; exact if_pos h1
  rename_i h1
  refine (if_neg h1).trans ?_
  split at h
  · rename_i h2; cases h; exact if_pos h2
  rename_i h2
  refine (if_neg h2).trans ?_
  dsimp only at h
  split at h
  · rename_i h3; cases h; exact if_pos h3
  rename_i h3
  refine (if_neg h3).trans ?_
  split at h
  · rename_i h4; cases h; exact if_pos h4
  rename_i h4
  refine (if_neg h4).trans ?_
  split at h
  · cases h
  rename_i h5
  cases h
  exact if_neg h5
end MP

set_option Elab.async false
set_option linter.all false
set_option maxRecDepth 100000
set_option autoImplicit false
set_option maxHeartbeats 8000000
/-! Mp25: statements are run as our evaluator does. -/
namespace MP
open PySem PySem.Spec L2
section
variable (cf : Nat → List D → Hh → Rs D) (tb : Tb) (cur : Option Exn)
theorem ex_asg (tg : Tg) (e : E) : ex cf tb (.asg tg e) cur = fun ρ h => (ev cf tb cur e ρ h).toS ρ (asgK tg ρ) := by funext ρ h; rw [ex]
theorem ex_fst (o : E) (f : Nat) (e : E) : ex cf tb (.fst o f e) cur = fun ρ h => (ev cf tb cur e ρ h).toS ρ fun d h1 => (ev cf tb cur o ρ h1).toS ρ (fstK f ρ d) := by funext ρ h; rw [ex]
theorem ex_ixs (o i e : E) : ex cf tb (.ixs o i e) cur = fun ρ h => (ev cf tb cur e ρ h).toS ρ fun d h1 => (ev cf tb cur o ρ h1).toS ρ fun x h2 => (ev cf tb cur i ρ h2).toS ρ (ixsK ρ d x) := by funext ρ h; rw [ex]
theorem ex_exp (e : E) : ex cf tb (.exp e) cur = fun ρ h => (ev cf tb cur e ρ h).toS ρ fun _ h1 => .ok (.nx ρ) h1 := by funext ρ h; rw [ex]
theorem ex_ret (e : E) : ex cf tb (.ret e) cur = fun ρ h => (ev cf tb cur e ρ h).toS ρ fun d h1 => .ok (.rt d) h1 := by funext ρ h; rw [ex]
theorem ex_retn : ex cf tb .retn cur = fun ρ h => .ok (.rt .non) h := by funext ρ h; rw [ex]
theorem ex_ife (e : E) (a b : Ss) : ex cf tb (.ife e a b) cur = fun ρ h => (evT cf tb cur e ρ h).toS ρ fun k h1 => if k then exs cf tb a cur ρ h1 else exs cf tb b cur ρ h1 := by funext ρ h; rw [ex]
theorem ex_whl (e : E) (b : Ss) : ex cf tb (.whl e b) cur = fun ρ h => whlLoop (evT cf tb cur e) (exs cf tb b cur) WF ρ h := by funext ρ h; rw [ex]
theorem ex_for (tg : Tg) (it : It) (b : Ss) : ex cf tb (.for_ tg it b) cur = fun ρ h => (evIt cf tb cur it ρ h).toS ρ fun J h1 => forLoop J.nxt (forBody tg (exs cf tb b cur)) J.fuel 0 ρ h1 := by funext ρ h; rw [ex]
theorem ex_rai (C : Nat) (es : Es) : ex cf tb (.rai C es) cur = fun ρ h => (evs cf tb cur es ρ h).toS ρ (raiK tb C ρ) := by funext ρ h; rw [ex]
theorem ex_try (b : Ss) (hs : Hs) : ex cf tb (.try_ b hs) cur = fun ρ h => tryK (exh cf tb hs) (exs cf tb b cur ρ h) := by funext ρ h; rw [ex]
theorem ex_pass : ex cf tb .pass cur = fun ρ h => .ok (.nx ρ) h := by funext ρ h; rw [ex]
theorem ex_brk : ex cf tb .brk cur = fun ρ h => .ok (.bk ρ) h := by funext ρ h; rw [ex]
theorem ex_cont : ex cf tb .cont cur = fun ρ h => .ok (.ct ρ) h := by funext ρ h; rw [ex]
theorem exs_nil : exs cf tb .nil cur = fun ρ h => .ok (.nx ρ) h := by funext ρ h; rw [exs]
theorem exs_cons (s : S) (ss : Ss) : exs cf tb (.cons s ss) cur = fun ρ h => seqK (exs cf tb ss cur) (ex cf tb s cur ρ h) := by funext ρ h; rw [exs]
end
section
variable {G : Gf} {cf : Nat → List D → Hh → Rs D} {tb : Tb} {k : Nat}
theorem cLc_inv {n : Nat} {c : Cf} {X : Cx} {S : Sta} {W : WX} {cur : Option Exn} (C : CtxM G c X S W cf tb cur k) {elt : Expr} {gens : List Comprehension} {scope : Scope} {p : Pos} {r : E} (h : cE G n c (.ListComp elt gens scope p) = some r) :
    ∃ (tg iter : Expr) (ifs : List Expr) (t : Tg) (it : It) (co : Eo) (x : E) (own : List (Str × Nat)), gens = [⟨tg, iter, ifs, 0⟩] ∧ r = .lc x t it co (own.map (·.2)) ∧ X.calm = true ∧ S.xs = [] ∧ PI X tg iter (tI S (evIt cf tb cur it) W) ∧ BlkOk X.N X.env.scope scope own ∧ (∀ i ∈ tgS t, i ∈ own.map (·.2)) ∧
      (∀ (s : Shared) (H : Hp) (Cc : Addr) (cl : List (Str × Addr)) (fp : List Addr), PG (X.blk s H scope (compEnvC scope cl Cc X.env) fp) tg (tG S t)) ∧
      (∀ (s : Shared) (H : Hp) (Cc : Addr) (cl : List (Str × Addr)) (fp : List Addr), PTs (X.blk s H scope (compEnvC scope cl Cc X.env) fp) ifs (tTt S (evC cf tb cur co) W0)) ∧
      (∀ (s : Shared) (H : Hp) (Cc : Addr) (cl : List (Str × Addr)) (fp : List Addr), PE (X.blk s H scope (compEnvC scope cl Cc X.env) fp) elt (tE S (ev cf tb cur x) W0)) ∧ notSet iter = true := by
  cases n with
  | zero => unfold cE at h; cases h
  | succ n =>
    have PEn : ∀ e r, cE G n c e = some r → PE X e (tE S (ev cf tb cur r) W) := fun e r h => cE_ok C h
    unfold cE at h
    split at h <;> rename_i heq <;> try (first | cases heq | cases h)
    case h_26 =>
      rename_i c _ _ _ n' tg iter ifs heq
      cases heq
      split at h
      · cases h
      rename_i hq
      simp only [Bool.not_eq_true', Bool.not_eq_false, Bool.and_eq_true] at hq
      have B := C.b hq.1
      have ok : BlkOk X.N X.env.scope scope (blkOwn c.N scope.names) := by rw [C.N, C.sc]; exact blkOk_by hq.2
      split at h
      · rename_i it t x h1 h2 h3
        obtain ⟨i1, i2⟩ := cIt_ok C PEn h1
        split at h
        · cases h
        rename_i hown
        simp only [Bool.not_eq_true', Bool.not_eq_false, List.all_eq_true] at hown
        have ho : ∀ i ∈ tgS t, i ∈ (blkOwn c.N scope.names).map (·.2) := fun i hi => by simpa using hown i hi
        have Cb := fun s H Cc cl fp => C.blk hq.1 ok s H Cc cl fp
        split at h
        · cases h
          refine ⟨_, _, _, t, it, .no, x, _, rfl, rfl, B.calm, B.xs, i1, ok, ho, fun s H Cc cl fp => (cTg_ok (Cb s H Cc cl fp) h2).1, fun s H Cc cl fp => ?_, fun s H Cc cl fp => cE_ok (Cb s H Cc cl fp) h3, i2⟩
          rw [evC_no]
          exact mts_nil
        · rename_i f
          split at h
          · rename_i y h4
            cases h
            refine ⟨_, _, _, t, it, .so y, x, _, rfl, rfl, B.calm, B.xs, i1, ok, ho, fun s H Cc cl fp => (cTg_ok (Cb s H Cc cl fp) h2).1, fun s H Cc cl fp => ?_, fun s H Cc cl fp => cE_ok (Cb s H Cc cl fp) h3, i2⟩
            rw [evC_so]
            exact mts_one (cT_ok (Cb s H Cc cl fp) h4)
          · cases h
        · cases h
      · cases h
end
end MP

set_option Elab.async false
set_option linter.all false
set_option maxRecDepth 100000
set_option autoImplicit false
set_option maxHeartbeats 8000000
/-! Mp26: the induction for statements. -/
namespace MP
open PySem PySem.Spec L2
structure StX (c : Cf) (X : Cx) : Prop where
  tp : X.stack = X.env :: X.outer
  fr : X.env.frame = some X.env.locals
  ps : c.cm = true → PassesOwn (model X.prog X.w) X.A X.env X.xe
section
variable {G : Gf} {cf : Nat → List D → Hh → Rs D} {tb : Tb} {k : Nat}
theorem GloA.sui {X X' : Cx} {S S' : Sta} (x : SE S S') (h3 : X'.K = X.K) (h4 : X'.mg = X.mg) (A : GloA G X S) : GloA G X' S' := by
  obtain ⟨⟩ := x
  obtain ⟨K', fA', cA', fN', cs', xcs', sx', sxm', xs'⟩ := S'
  obtain ⟨K0, fA0, cA0, fN0, cs0, xcs0, sx0, sxm0, xs0⟩ := S
  dsimp only at *
  subst_vars
  refine ⟨?_, ⟨A.hF.cl, A.hF.ha, A.hF.hn, A.hF.htk, A.hF.hm, A.hF.own, A.hF.ofT, A.hF.toT⟩, ⟨A.L.inj⟩, fun x d e => ?_, ?_, ?_, ?_, A.fl, A.no⟩
  · rw [h3]; exact A.hK
  · obtain ⟨v, u, a, b, f⟩ := A.con x d e
    exact ⟨v, u, by rw [h4]; exact a, b, fun m H => VR.re (S := ⟨K0, fA0, cA0, fN0, cs0, xcs0, sx0, sxm0, xs0⟩) (S' := ⟨K0, fA0, cA0, fN0, cs0, xcs0, sx', sxm', xs'⟩) ⟨rfl, rfl, rfl, rfl, rfl, rfl⟩ (f m H)⟩
  · rw [h4]; exact A.fnm
  · rw [h4]; exact A.cls
  · rw [h4]; exact A.bl
theorem CtxM.suite {c : Cf} {X : Cx} {S : Sta} {W : WX} {cur : Option Exn} (C : CtxM G c X S W cf tb cur k) {a : Addr} {oe : Obj} {cls : Value} {d : Option Addr} {pn : List (Addr × Obj)} (e : Exn) (hz : Zc cls d oe) (hf : ∃ vs, oe.data = .fields vs) (oi : Option Nat) :
    CtxM G (suCf c oi) (X.suite a ((a, oe) :: pn)) (S.sui e cls d oi a) W0 cf tb (some e) k where
  a := GloA.sui (X := X) (Sta.sui_se (S := S)) rfl rfl C.a
  b := fun z => by cases z
  N := C.N
  nd := C.nd
  sc := C.sc
  kd := C.kd
  un := C.un
  px := fun p hp => by
    cases oi with
    | none => cases hp
    | some i =>
      have hp' : p = (i, .ref a) := by simpa [Sta.sui] using hp
      rw [hp']; rfl
  fc := C.fc
  tk := takes0
  xf := fun i hi n np pos f h1 h2 h3 h4 => by
    have e0 : oi = some i := hi
    subst e0
    exact me_xf (S := S) (e := e) (cls := cls) (d := d) C.a.hK hz hf h1 h2 h3 h4
theorem CtxM.tr {c : Cf} {X : Cx} {S : Sta} {W W' : WX} {cur : Option Exn} (C : CtxM G c X S W cf tb cur k) (hcm : c.cm = true) {pn : List (Addr × Obj)} {xe : Value → Shared → Prop} (tk : Takes (X.tr pn xe) W') (hpx : c.px = none) : CtxM G c (X.tr pn xe) S W' cf tb cur k where
  a := GloA.tr (X := X) rfl rfl C.a
  b := fun _ => GloB.tr (X := X) rfl rfl rfl rfl rfl rfl rfl (C.b hcm)
  N := C.N
  nd := C.nd
  sc := C.sc
  kd := C.kd
  un := C.un
  px := C.px
  fc := C.fc
  tk := tk
  xf := fun i hi => by rw [hpx] at hi; cases hi
theorem swaps_name {elt : Expr} {g : List Comprehension} {s : Scope} {p q : Pos} {y : Str} {l : Nat} {env : Env} :
    swapsWith (.ListComp elt g s p) (some (.Name y q)) l env = pure (env.blockKind == .function && env.kindOf y == some .local && q.line == p.line && !(s.names.any fun (n, k) => n == y && (k == .local || k == .cell))) := rfl
/-- a plain assignment -/
theorem asg_ok {c : Cf} {X : Cx} {S : Sta} {W : WX} {cur : Option Exn} (C : CtxM G c X S W cf tb cur k) {tg v : Expr} {t : Tg} {x : E} {pos : Pos} (hs : asgOk c tg v = true) (ht : cTg c tg = some t) (hv : cE G EF c v = some x) :
    PS X (.Assign [tg] v pos) (tS S (ex cf tb (.asg t x) cur) W) := by
  rw [ex_asg]
  obtain ⟨g1, g2⟩ := cTg_ok C ht
  have pv := cE_ok C hv
  have h1 : (assignEach [tg] X.env).map (·.2) = [assign tg X.env] := by rw [assign_cons g2]; rfl
  by_cases hc : notComp v = true
  · have sw : swapsWithSole [tg] v pos.line X.env = pure false := swaps_none hc
    unfold asgOk at hs
    split at hs
    · rename_i ts k1 p1 vs k2 p2
      split at hs
      · rename_i hsw
        exact ms_asg pv g1 sw (swp_ok C.sc C.kd hsw) h1
      · rename_i x0 y0 hsw
        split at hs
        · rename_i x' px y' py a b
          simp only [Bool.and_eq_true, beq_iff_eq, bne_iff_ne] at hs
          obtain ⟨⟨⟨⟨⟨e1, e2⟩, hcm⟩, hne⟩, l1⟩, l2⟩ := hs
          subst e1 e2
          have lx : X.env.scope.names.lookup x0 = some .local := by
            rw [C.sc]
            split at l1
            · assumption
            · cases l1
          have ly : X.env.scope.names.lookup y0 = some .local := by
            rw [C.sc]
            split at l2
            · assumption
            · cases l2
          have B := C.b hcm
          -- the target's shape
          unfold cTg at ht
          rw [if_pos hcm] at ht
          obtain ⟨ts', ht1, ht2⟩ := Option.map_eq_some_iff.mp ht
          subst ht2
          unfold cTgs at ht1
          split at ht1
          · rename_i t1 ts1 hx1 hts1
            cases ht1
            unfold cTgs at hts1
            split at hts1
            · rename_i t2 ts2 hx2 hts2
              cases hts1
              unfold cTgs at hts2
              cases hts2
              unfold cTg at hx1 hx2
              split at hx1
              · split at hx1
                · rename_i i hi
                  split at hx1
                  · cases hx1
                  · cases hx1
                    split at hx2
                    · split at hx2
                      · rename_i j hj
                        split at hx2
                        · cases hx2
                        · cases hx2
                          -- the value's shape
                          have hij : i ≠ j := fun z => by
                            have a1 := C.slot hi
                            have a2 := C.slot hj
                            rw [z, a2] at a1
                            exact hne (Option.some.inj a1).symm
                          obtain ⟨es', hv1, hv2⟩ : ∃ es', cEs (cE G 39 c) [a, b] = some es' ∧ x = .tup es' := by
                            unfold cE at hv
                            obtain ⟨z1, z2, z3⟩ := Option.map_eq_some_iff.mp hv
                            exact ⟨z1, z2, z3.symm⟩
                          subst hv2
                          rw [ev_tup]
                          exact ms_par B.xs B.calm C.nd (C.slot hi) (C.slot hj) hij lx ly (cEs_ok (fun e r h => cE_ok C h) hv1) (swp_ok C.sc C.kd hsw)
                      · cases hx2
                    · cases hx2
                · cases hx1
              · cases hx1
            · cases hts1
          · cases ht1
        · cases hs
      · cases hs
    · rename_i ts k1 p1 hnt
      have sp : swappedStores [.Tuple ts k1 p1] v X.env = pure none := by
        cases v
        case Tuple => exact (hnt _ _ _ rfl).elim
        all_goals rfl
      exact ms_asg pv g1 sw sp h1
    · rename_i y q
      have sp : swappedStores [.Name y q] v X.env = pure none := rfl
      exact ms_asg pv g1 sw sp h1
    · cases hs
  · -- a list comprehension
    cases v with
    | ListComp elt g s p =>
      cases tg with
      | Name y q =>
        have hsw := swaps_name (elt := elt) (g := g) (s := s) (p := p) (q := q) (y := y) (l := pos.line) (env := X.env)
        cases hb : (X.env.blockKind == .function && X.env.kindOf y == some .local && q.line == p.line && !(s.names.any fun (n, k) => n == y && (k == .local || k == .cell))) with
        | false =>
          rw [hb] at hsw
          exact ms_asg pv g1 hsw rfl h1
        | true =>
          rw [hb] at hsw
          obtain ⟨tg', iter, ifs, t', it, co, x', own, e1, e2, cc, xs, i1, ok, ho, hg, hts, he, hns⟩ := cLc_inv C hv
          subst e1 e2
          unfold cTg at ht
          split at ht
          · split at ht
            · rename_i i hi
              split at ht
              · cases ht
              · cases ht
                simp only [Bool.and_eq_true, beq_iff_eq] at hb
                rw [ev_lc]
                exact ms_setLc xs cc C.nd (C.slot hi) hb.1.1.2 hsw i1 ok ho hg hts he (folded_none hns)
            · cases ht
          · cases ht
      | Tuple ts k1 p1 => exact ms_asg pv g1 rfl rfl h1
      | _ => simp [asgOk] at hs
    | SetComp _ _ _ _ => simp [cE] at hv
    | DictComp _ _ _ _ _ => simp [cE] at hv
    | _ => exact absurd rfl hc
end
end MP

set_option Elab.async false
set_option linter.all false
set_option maxRecDepth 100000
set_option autoImplicit false
set_option maxHeartbeats 8000000
/-! Mp27: the induction for statements, its step. -/
namespace MP
open PySem PySem.Spec L2
section
variable {G : Gf} {cf : Nat → List D → Hh → Rs D} {tb : Tb} {k : Nat}
def SndS (G : Gf) (cf : Nat → List D → Hh → Rs D) (tb : Tb) (k n : Nat) : Prop := ∀ (c : Cf) (X : Cx) (S : Sta) (W : WX) (cur : Option Exn), CtxM G c X S W cf tb cur k → StX c X → ∀ st r, cS G n c st = some r → PS X st (tS S (ex cf tb r cur) W)
def SndSs (G : Gf) (cf : Nat → List D → Hh → Rs D) (tb : Tb) (k n : Nat) : Prop := ∀ (c : Cf) (X : Cx) (S : Sta) (W : WX) (cur : Option Exn), CtxM G c X S W cf tb cur k → StX c X → ∀ st r, cSs G n c st = some r → PSs X st (tS S (exs cf tb r cur) W)
def SndHs (G : Gf) (cf : Nat → List D → Hh → Rs D) (tb : Tb) (k n : Nat) : Prop := ∀ (c : Cf) (X : Cx) (S : Sta) (W : WX) (cur : Option Exn), CtxM G c X S W cf tb cur k → StX c X → c.cm = true → ∀ hs r, cHs G n c hs = some r → HdM X S cf tb hs r
theorem pSet_of {X : Cx} {S : Sta} {W : WX} {o i : Expr} {p : Pos} {fo fi : PEnv → Hh → Rs D} (ho : PE X o (tE S fo W)) (hi : PE X i (tE S fi W)) (hs : notSlice i = true) : PG X (.Subscript o i p) (gSub (tE S fo W) (tE S fi W) rSetL) := by
  refine pg_sub ho hi set_list fun v => ?_
  cases i <;> first | rfl | cases hs
theorem cCl_ok {c : Cf} {X : Cx} {S : Sta} {W : WX} {cur : Option Exn} (C : CtxM G c X S W cf tb cur k) (hcm : c.cm = true) {x : Str} {Cc : Nat} (h : cCl G c x = some Cc) : Names X x (.ref (S.cA Cc)) ∧ Cc ∈ S.xcs := by
  unfold cCl at h
  split at h
  · cases h
  rename_i hd
  simp only [Bool.or_eq_true, Bool.not_eq_true', not_or, Bool.not_eq_false, Bool.not_eq_true] at hd
  split at h
  · rename_i hg
    cases h
    obtain ⟨a, b⟩ := (C.b hcm).exc _ _ hg
    exact ⟨⟨C.glb hd.2, dun_debug hd.1, .inl a⟩, b.xc⟩
  · rename_i hg
    cases h
    obtain ⟨a, b⟩ := (C.b hcm).exc0 _ _ hg
    exact ⟨⟨C.glb hd.2, dun_debug hd.1, .inl a⟩, b.xc⟩
  · cases h
theorem StX.suite {c : Cf} {X : Cx} (T : StX c X) {a : Addr} {pn : List (Addr × Obj)} {px : Option Nat} : StX (suCf c px) (X.suite a pn) := ⟨T.tp, T.fr, fun z => by cases z⟩
theorem hs_step {n : Nat} (hSs : SndSs G cf tb k n) (hHs : SndHs G cf tb k n) : SndHs G cf tb k (n + 1) := by
  intro c X S W cur C T hcm hs r h
  unfold cHs at h
  split at h
  · cases h
  · cases h; exact .nil
  · rename_i m x np b₀ su pos' hs' heq
    cases heq
    split at h
    · rename_i Cc y z h1 h2 h3
      cases h
      obtain ⟨a1, a2⟩ := cCl_ok C hcm h1
      exact .one a1 (fun E hE => (C.b hcm).sub E _ hE a2) (fun a oe cls d pn e hz hf => hSs _ _ _ _ _ (C.suite e hz hf none) T.suite _ _ h2) (hHs _ X S W cur C T hcm _ _ h3)
    · cases h
  · rename_i c m x np nm b₀ su pos' hs' heq
    cases heq
    split at h
    · rename_i i Cc hi h1
      split at h
      · rename_i y z h2 h3
        cases h
        obtain ⟨a1, a2⟩ := cCl_ok C hcm h1
        split at hi
        · rename_i hl
          refine .as a1 (fun E hE => (C.b hcm).sub E _ hE a2) (C.slot hi) ?_ (fun a oe cls d pn e hz hf => hSs _ _ _ _ _ (C.suite e hz hf (some i)) T.suite _ _ h2) (hHs _ X S W cur C T hcm _ _ h3)
          show X.env.scope.names.lookup nm = some .local
          rw [C.sc]; exact hl
        · cases hi
      · cases h
    · cases h
  · cases h
theorem ss_step {n : Nat} (hS : SndS G cf tb k n) (hSs : SndSs G cf tb k n) : SndSs G cf tb k (n + 1) := by
  intro c X S W cur C T ss r h
  unfold cSs at h
  split at h
  · cases h
  · cases h; rw [exs_nil]; exact mss_nil
  · rename_i heq
    cases heq
    split at h
    · rename_i x y h1 h2
      cases h
      rw [exs_cons]
      exact mss_cons (hS _ X S W cur C T _ _ h1) (hSs _ X S W cur C T _ _ h2)
    · cases h
theorem s_step {n : Nat} (hSs : SndSs G cf tb k n) (hHs : SndHs G cf tb k n) : SndS G cf tb k (n + 1) := by
  intro c X S W cur C T st r h
  have PEn : ∀ {e r}, cE G EF c e = some r → PE X e (tE S (ev cf tb cur r) W) := fun h => cE_ok C h
  unfold cS at h
  split at h
  case h_1 => cases h
  case h_2 =>
    rename_i m o f p1 v pos heq
    cases heq
    split at h
    · cases h
    split at h
    · rename_i o' v' f' h1 h2 h3
      cases h
      rw [ex_fst, ← C.a.fl _ _ h3]
      refine ms_fst C.a.hF C.a.L (C.a.no _ _ h3) C.a.hK (PEn h1) (PEn h2) ?_
      cases v <;> rfl
    · cases h
  case h_3 =>
    rename_i m o i p1 v pos heq
    cases heq
    split at h
    · cases h
    rename_i hsl
    simp only [Bool.not_eq_true', Bool.not_eq_false] at hsl
    split at h
    · rename_i o' i' v' h1 h2 h3
      cases h
      rw [ex_ixs]
      refine ms_ixs (PEn h1) (PEn h2) (PEn h3) (pSet_of (PEn h1) (PEn h2) hsl) ?_ rfl rfl
      cases v <;> rfl
    · cases h
  case h_4 =>
    rename_i m tg v pos _ _ heq
    cases heq
    split at h
    · cases h
    rename_i ha
    simp only [Bool.not_eq_true', Bool.not_eq_false] at ha
    split at h
    · rename_i t x h1 h2
      cases h
      exact asg_ok C ha h1 h2
    · cases h
  case h_5 =>
    rename_i m v pos heq
    cases heq
    split at h
    · cases h
    rename_i hc
    simp only [Bool.not_eq_true', Bool.not_eq_false] at hc
    obtain ⟨x, h1, h2⟩ := Option.map_eq_some_iff.mp h
    subst h2
    rw [ex_exp]
    exact ms_exp (PEn h1) (swaps_none hc)
  case h_6 =>
    rename_i m v pos heq
    cases heq
    obtain ⟨x, h1, h2⟩ := Option.map_eq_some_iff.mp h
    subst h2
    rw [ex_ret]
    exact ms_ret (PEn h1)
  case h_7 => cases h; rw [ex_retn]; exact ms_retn
  case h_8 =>
    rename_i m t a b pos heq
    cases heq
    split at h
    · rename_i x y z h1 h2 h3
      cases h
      rw [ex_ife]
      exact ms_if (cT_ok C h1) (hSs _ X S W cur C T _ _ h2) (hSs _ X S W cur C T _ _ h3)
    · cases h
  case h_9 =>
    rename_i m t b pos heq
    cases heq
    split at h
    · cases h
    rename_i hcm
    simp only [Bool.not_eq_true', Bool.not_eq_false] at hcm
    split at h
    · rename_i x y h1 h2
      cases h
      rw [ex_whl]
      exact ms_whl (T.ps hcm) (cT_ok C h1) (hSs _ X S W cur C T _ _ h2) WF
    · cases h
  case h_10 =>
    rename_i m tg it b pos heq
    cases heq
    split at h
    · cases h
    rename_i hcm
    simp only [Bool.not_eq_true', Bool.not_eq_false] at hcm
    split at h
    · rename_i t i y h1 h2 h3
      cases h
      obtain ⟨i1, i2⟩ := cIt_ok C (fun e r h => cE_ok C h) h2
      rw [ex_for]
      exact ms_for (T.ps hcm) (C.b hcm).calm i1 (cTg_ok C h1).1 (hSs _ X S W cur C T _ _ h3) (folded_none i2)
    · cases h
  case h_11 => cases h; rw [ex_pass]; exact ms_pass
  case h_12 => cases h; rw [ex_brk]; exact ms_brk
  case h_13 => cases h; rw [ex_cont]; exact ms_cont
  case h_14 =>
    rename_i m x p1 es p2 p3 heq
    cases heq
    split at h
    · cases h
    rename_i hd
    simp only [Bool.or_eq_true, Bool.not_eq_true', not_or, Bool.not_eq_false, Bool.not_eq_true] at hd
    obtain ⟨⟨hcm, hd⟩, hg⟩ := hd
    have B := C.b hcm
    split at h
    · rename_i Cc hgl
      split at h
      · cases h
      rename_i hne
      obtain ⟨y, h1, h2⟩ := Option.map_eq_some_iff.mp h
      subst h2
      obtain ⟨a1, a2⟩ := B.exc _ _ hgl
      have ns := cEs_nostar (fun e r h => cE_nostar h) h1
      rw [ex_rai]
      cases es with
      | nil => simp at hne
      | cons e es =>
        exact ms_rai C.a.L B.calm C.tk a2 (B.room.mono (by omega)) (C.glb hg) a1 (dun_debug hd) (cEs_ok (fun e r h => cE_ok C h) h1) (star_cons (all_tail ns).1) (star_plain (all_tail ns).2)
    · rename_i Cc hgl
      split at h
      · cases h
        obtain ⟨a1, a2⟩ := B.exc0 _ _ hgl
        rw [ex_rai, evs_nil]
        exact ms_rai0 B.calm C.tk a2 (C.glb hg) a1 (dun_debug hd)
      · cases h
    · cases h
  case h_15 =>
    rename_i m b h0 hs pos heq
    cases heq
    split at h
    · cases h
    rename_i hcm
    simp only [Bool.or_eq_true, Bool.not_eq_true', not_or, Bool.not_eq_false, Bool.not_eq_true, Option.isSome_eq_false_iff, Option.isNone_iff_eq_none] at hcm
    split at h
    · rename_i x y h1 h2
      cases h
      rw [ex_try]
      refine ms_try (C.b hcm.1).xs T.tp T.fr C.nd C.tk (fun W' pn xe tk ps => ?_) (hHs _ X S W cur C T hcm.1 _ _ h2)
      exact hSs _ (X.tr pn xe) S W' cur (C.tr hcm.1 tk hcm.2) ⟨T.tp, T.fr, fun _ => ps⟩ _ _ h1
    · cases h
  case h_16 => cases h
theorem sndS_all (n : Nat) : SndS G cf tb k n ∧ SndSs G cf tb k n ∧ SndHs G cf tb k n := by
  induction n with
  | zero =>
    refine ⟨?_, ?_, ?_⟩
    · intro c X S W cur C T st r h; unfold cS at h; cases h
    · intro c X S W cur C T st r h; unfold cSs at h; cases h
    · intro c X S W cur C T hc hs r h; unfold cHs at h; cases h
  | succ n ih => exact ⟨s_step ih.2.1 ih.2.2, ss_step ih.1 ih.2.1, hs_step ih.2.1 ih.2.2⟩
end
end MP

set_option Elab.async false
set_option linter.all false
set_option maxRecDepth 100000
set_option autoImplicit false
set_option maxHeartbeats 8000000
/-! Mp28: the defs of a table keep what our evaluator says of them; the law. -/
namespace MP
open PySem PySem.Spec L2
/-- how deep statements may be -/
abbrev SF : Nat := 120
structure DefOk (G : Gf) (K : PySem.W.Frag) (S : Sta) (i : Nat) (fd : Fd) : Prop where
  ex : ∃ x qual st fdata N ps, L2.Fun K x qual st (S.fA i) fdata ∧ FnScope N ps (defScope st) ∧ Binds K fdata ps [] ∧ cSs G SF ⟨N, defScope st, true, none, true⟩ (defBody st) = some fd.body ∧ fd.ar = ps.length ∧ fd.ns = N.length
structure Prg (G : Gf) (S : Sta) (tb : Tb) (P : Program) (w : World) (K : PySem.W.Frag) (mg : Str → Option Value) (base : Heap) : Prop where
  hK : S.K = K
  xs : S.xs = []
  ga : ∀ X : Cx, X.K = K → X.mg = mg → GloA G X S
  df : ∀ i fd, tb.fn i = some fd → DefOk G K S i fd
  fn : ∀ x i, G.gl.lookup x = some (.fn i) → ∃ fd, tb.fn i = some fd
  mak : ∀ x C, G.gl.lookup x = some (.cls C) → ∃ i fd, tb.ini C = some i ∧ tb.fn i = some fd ∧ Mk K (S.cA C) (S.fA i)
  exc : ∀ X : Cx, X.prog = P → X.w = w → X.K = K → X.mg = mg → X.base = base → ∀ x C, G.gl.lookup x = some (.exc C) → X.mg x = some (.ref (S.cA C)) ∧ XcF S X tb C
  exc0 : ∀ X : Cx, X.prog = P → X.w = w → X.K = K → X.mg = mg → X.base = base → ∀ x C, G.gl.lookup x = some (.exc0 C) → X.mg x = some (.ref (S.cA C)) ∧ XcG S X tb C
  sub : ∀ E C, E ∈ S.xcs → C ∈ S.xcs → PySem.W.exmOne K (.ref (S.cA E)) (.ref (S.cA C)) = some (tb.sub E C)
  me : ∀ nm mi, G.me.lookup nm = some mi → (∀ c f, c ∈ S.cs → tb.me c mi = some f → Meth S.K (S.cA c) nm (S.fA f) ∧ ∃ fd, tb.fn f = some fd) ∧ ∀ fl, S.fN fl = nm → fl = mi

section
variable {G : Gf} {S : Sta} {tb : Tb} {P : Program} {w : World} {K : PySem.W.Frag} {mg : Str → Option Value} {base : Heap}
theorem er_start {m : List Addr} {H : Hp} {ds : List D} {vs : List V} {N : List Str} (hx : S.xs = []) (q : VRs S m H ds vs) : ER S m H (startE N.length ds) (L2.start N vs) := by
  have hl := q.length
  refine ⟨?_, fun i d e => ?_, by rw [hx]; simp⟩
  · unfold startE L2.start
    simp [hl]
  · unfold startE at e
    unfold L2.start
    by_cases hi : i < ds.length
    · rw [List.getElem?_append_left (by simpa using hi), List.getElem?_map] at e
      obtain ⟨d', e1, e2⟩ := Option.map_eq_some_iff.mp e
      cases e2
      obtain ⟨v, g1, g2⟩ := q.get e1
      refine ⟨v, ?_, g2⟩
      rw [List.getElem?_append_left (by rw [List.length_map, ← hl]; exact hi), List.getElem?_map, g1]; rfl
    · rw [List.getElem?_append_right (by simpa using Nat.le_of_not_lt hi)] at e
      exfalso
      rw [List.getElem?_replicate] at e
      split at e <;> cases e
def PrgFn (S : Sta) (tb : Tb) (P : Program) (w : World) (K : PySem.W.Frag) (mg : Str → Option Value) (base : Heap) (n : Nat) : Prop := ∀ (i : Nat) (fd : Fd), tb.fn i = some fd → (∃ fdata ps, FnOk P w K mg base (L2.CX P w) (4 * n) (S.fA i) fdata ps (spC S (cal tb n i)) ∧ Binds K fdata ps []) ∧ PySem.W.keepIn K (.ref (S.fA i)) = true
theorem prg_one (R : Prg G S tb P w K mg base) (n : Nat) (ih : PrgFn S tb P w K mg base n) {i : Nat} {fd : Fd} (hi : tb.fn i = some fd) {x qual : Str} {st : Stmt} {fdata : FuncData} {N ps : List Str} (F : L2.Fun K x qual st (S.fA i) fdata) (sc : FnScope N ps (defScope st)) (bd : Binds K fdata ps [])
    (hc : cSs G SF ⟨N, defScope st, true, none, true⟩ (defBody st) = some fd.body) (ha : fd.ar = ps.length) (hns : fd.ns = N.length) : FnOk P w K mg base (L2.CX P w) (4 * n + 3 + 1) (S.fA i) fdata ps (spC S (cal tb (n + 1) i)) := by
  refine F.okX (k := 4 * n + 3) sc (fun vs H Q E ⟨m, h, ds, r, q, p⟩ => ?_) fun cdv A outer s H vs Q E hr ⟨m, h, ds, r, q, p⟩ => ?_
  · unfold cal at p
    rw [hi] at p
    dsimp only at p
    split at p
    · rename_i hl
      rw [← q.length, ← ha]
      exact eq_of_beq hl
    · exact False.elim p
  · have C : CtxM G ⟨N, defScope st, true, none, true⟩ (cxOf (L2.CX P w) P w K mg base N qual (defScope st) (S.fA i) cdv A outer s H E) S (fun cls d _ H => E cls d H) (cal tb n) tb none (4 * n) := {
      a := R.ga _ rfl rfl
      b := fun _ => {
        room := hr
        fn := fun x i hx => by
          obtain ⟨fd', h1⟩ := R.fn x i hx
          obtain ⟨⟨fdata', ps', h2, h3⟩, h4⟩ := ih i fd' h1
          exact ⟨⟨fdata', ps', h2, h3⟩, h4⟩
        mak := fun x C hx => by
          obtain ⟨i, fd', h0, h1, hM⟩ := R.mak x C hx
          obtain ⟨⟨fdata', ps', h2, h3⟩, h4⟩ := ih i fd' h1
          exact ⟨i, h0, ⟨⟨fdata', ps', h2, h3⟩, h4⟩, hM⟩
        exc := R.exc _ rfl rfl rfl rfl rfl
        exc0 := R.exc0 _ rfl rfl rfl rfl rfl
        sub := R.sub
        me := fun nm mi hx => by
          obtain ⟨a1, a2⟩ := R.me nm mi hx
          refine ⟨fun c f hc hf => ?_, a2⟩
          obtain ⟨b1, fd', h1⟩ := a1 c f hc hf
          obtain ⟨⟨fdata', ps', h2, h3⟩, h4⟩ := ih f fd' h1
          exact ⟨b1, ⟨fdata', ps', h2, h3⟩, h4⟩
        calm := rfl
        xs := R.xs }
      N := rfl
      nd := sc.nd
      sc := rfl
      kd := sc.kind
      un := Nat.lt_of_le_of_lt (by show (A.deeper (PyProof.Rows.envOfC qual (defScope st) s.heap.objs.size (S.fA i) cdv)).units + 100 ≤ (A.deeper (PyProof.Rows.envOfC qual (defScope st) s.heap.objs.size (S.fA i) cdv)).units + 16 * (4 * n + 3) + 200; omega) hr.un
      px := by rw [R.xs]; simp
      fc := fun _ _ => rfl
      tk := takes_of rfl rfl rfl rfl
      xf := fun i hi => by cases hi }
    have T : StX ⟨N, defScope st, true, none, true⟩ (cxOf (L2.CX P w) P w K mg base N qual (defScope st) (S.fA i) cdv A outer s H E) := ⟨rfl, rfl, fun _ => passes_of rfl⟩
    refine ⟨_, (sndS_all SF).2.1 _ _ _ _ _ C T _ _ hc, m, startE fd.ns ds, h, r, by rw [hns]; exact er_start R.xs q, ?_⟩
    unfold cal at p
    rw [hi] at p
    dsimp only at p
    split at p
    · revert p
      cases exs (cal tb n) tb fd.body none (startE fd.ns ds) h with
      | ok f h' =>
        cases f with
        | nx ρ => exact fun p m' H' σ' x r q => p m' H' .non x r .non
        | rt d => exact fun p => p
        | bk ρ => exact fun p => False.elim p
        | ct ρ => exact fun p => False.elim p
      | ex e ρ h' => exact fun p m' H' σ' cls d x r q => p m' H' cls d x r
      | st => exact fun p => False.elim p
    · exact False.elim p
theorem prg_fn (R : Prg G S tb P w K mg base) : ∀ n : Nat, PrgFn S tb P w K mg base n := by
  intro n
  induction n with
  | zero =>
    intro i fd hi
    obtain ⟨x, qual, st, fdata, N, ps, F, sc, bd, hc, ha, hns⟩ := (R.df i fd hi).ex
    refine ⟨⟨fdata, ps, ⟨fun vs H Q E ⟨m, h, ds, _, _, p⟩ => ?_, fun A outer s H args us vs Q E _ _ _ _ ⟨m, h, ds, _, _, p⟩ => ?_⟩, bd⟩, F.kp⟩
    · exact False.elim p
    · exact False.elim p
  | succ n ih =>
    intro i fd hi
    obtain ⟨x, qual, st, fdata, N, ps, F, sc, bd, hc, ha, hns⟩ := (R.df i fd hi).ex
    exact ⟨⟨fdata, ps, prg_one R n ih hi F sc bd hc ha hns, bd⟩, F.kp⟩
/-- the law's promise -/
def spL (K : PySem.W.Frag) : Sp := fun vs H Q _ => ∃ (a : Addr) (ns : List Int), vs = [.ref a] ∧ ns.length ≤ 63 ∧ Only H ∧ SqL K H a (ns.map V.int) ∧ ∀ H', Q (.bl true) H'
theorem vrs_ints {m : List Addr} {H : Hp} : ∀ ns : List Int, VRs S m H (ns.map .int) (ns.map .int)
  | [] => .nil
  | n :: ns => .cons (.int n) (vrs_ints ns)
theorem prg_law (R : Prg G S tb P w K mg base) (hsx : S.sx [] = fun _ => True) {n i : Nat} {fd : Fd} (hi : tb.fn i = some fd) {fdata : FuncData} {ps : List Str}
    (F : FnOk P w K mg base (L2.CX P w) (4 * n) (S.fA i) fdata ps (spC S (cal tb n i))) (hlaw : ∀ ns : List Int, ns.length ≤ 63 → ∃ h', cal tb n i [.frz (ns.map .int)] [] = .ok (.bl true) h') :
    FnOk P w K mg base (L2.CX P w) (4 * n) (S.fA i) fdata ps (spL K) :=
  F.imp fun vs H Q E ⟨a, ns, e, hz, hO, hS, q⟩ => by
    subst e
    refine ⟨[], [], [.frz (ns.map .int)], ⟨rfl, List.nodup_nil, fun i o e => by simp at e, by rw [hsx]; trivial⟩, .cons (.frz ?_ (vrs_ints ns)) .nil, ?_⟩
    · rcases hS with (e | e) | e
      · rcases hO a with h | ⟨o, xs, h⟩
        · rw [h] at e; cases e
        · rw [h] at e; cases e
      · exact .inl e
      · exact .inr (by rw [R.hK]; exact e)
    · obtain ⟨h', e⟩ := hlaw ns hz
      rw [e]
      exact fun m' H' v _ _ z => by
        cases z
        exact q _
end
end MP

set_option Elab.async false
set_option linter.all false
set_option maxRecDepth 100000
set_option autoImplicit false
set_option maxHeartbeats 8000000
/-! Mp29: a program's facts, put together. -/
namespace MP
open PySem PySem.Spec PyProof.Rows L2

def AllP {α : Type} (P : Str → α → Prop) : List (Str × α) → Prop
  | [] => True
  | (a, b) :: r => P a b ∧ AllP P r
theorem AllP.get {α : Type} {P : Str → α → Prop} : ∀ {l : List (Str × α)} {x : Str} {g : α}, AllP P l → l.lookup x = some g → P x g
  | [], _, _, _, e => by cases e
  | (a, b) :: r, x, g, h, e => by
    rw [List.lookup_cons] at e
    by_cases hx : x = a
    · subst hx
      simp only [beq_self_eq_true, Option.some.injEq] at e
      subst e
      exact h.1
    · have h2 : (x == a) = false := by simpa using hx
      rw [h2] at e
      exact AllP.get h.2 e
def AllB (P : Str → Prop) : List Str → Prop
  | [] => True
  | a :: r => P a ∧ AllB P r
theorem AllB.get {P : Str → Prop} : ∀ {l : List Str} {x : Str}, AllB P l → l.contains x = true → P x
  | [], _, _, e => by simp at e
  | a :: r, x, h, e => by
    rw [List.contains_cons, Bool.or_eq_true] at e
    rcases e with e | e
    · rw [eq_of_beq e]; exact h.1
    · exact AllB.get h.2 e
def AllN {α : Type} (P : Nat → α → Prop) : List (Nat × α) → Prop
  | [] => True
  | (a, b) :: r => P a b ∧ AllN P r
theorem AllN.get {α : Type} {P : Nat → α → Prop} : ∀ {l : List (Nat × α)} {x : Nat} {g : α}, AllN P l → l.lookup x = some g → P x g
  | [], _, _, _, e => by cases e
  | (a, b) :: r, x, g, h, e => by
    rw [List.lookup_cons] at e
    by_cases hx : x = a
    · subst hx
      simp only [beq_self_eq_true, Option.some.injEq] at e
      subst e
      exact h.1
    · have h2 : (x == a) = false := by simpa using hx
      rw [h2] at e
      exact AllN.get h.2 e
/-- the names of fields and methods: from a list, others apart -/
def nmOf (l : List Str) (i : Nat) : Str := match l[i]? with
  | some s => s
  | none => ⟨#[0, i]⟩
def nmOk (l : List Str) : Bool := decide l.Nodup && l.all fun s => s.cps[0]? != some 0
theorem nm_inj {l : List Str} (h : nmOk l = true) : ∀ f g, nmOf l f = nmOf l g → f = g := by
  unfold nmOk at h
  rw [Bool.and_eq_true, decide_eq_true_eq, List.all_eq_true] at h
  obtain ⟨hn, h0⟩ := h
  intro f g e
  unfold nmOf at e
  cases ef : l[f]? with
  | none =>
    cases eg : l[g]? with
    | none =>
      simp only [ef, eg, Str.mk.injEq] at e
      have := congrArg (·.toList) e
      simpa using this
    | some s =>
      simp only [ef, eg] at e
      have := h0 s (List.mem_of_getElem? eg)
      rw [← e] at this
      simp at this
  | some s =>
    cases eg : l[g]? with
    | none =>
      simp only [ef, eg] at e
      have := h0 s (List.mem_of_getElem? ef)
      rw [e] at this
      simp at this
    | some s2 =>
      simp only [ef, eg] at e
      subst e
      exact nodup_ix hn ef eg
/-- an exception class with its own __init__, told without a context -/
structure XcP (S : Sta) (tb : Tb) (P : Program) (w : World) (K : PySem.W.Frag) (mg : Str → Option Value) (base : Heap) (C : Nat) : Prop where
  T : ∃ B newId initId bmB, XcC K (S.cA C) B newId initId bmB
  ini : ∃ fI fd ps fids, PySem.W.findIn K (.ref (S.cA C)) "__init__" = some (some (.ref fI)) ∧ PySem.W.typeIn K (.ref fI) = some (.type "function") ∧
    FnOk P w K mg base (L2.CX P w) 2 fI fd ps (spXi (S.cA C) (fids.map S.fN)) ∧ Binds K fd ps [] ∧ tb.xf C = some fids ∧ fids.Nodup ∧ fids.length ≤ 1000 ∧ ∀ f ∈ fids, XfF S.K (S.cA C) (S.fN f)
  xc : C ∈ S.xcs
structure XcQ (S : Sta) (tb : Tb) (K : PySem.W.Frag) (C : Nat) : Prop where
  F : ∃ B newId initId bmB, ExcBaseFacts B newId initId bmB ∧ PySem.W.excIn K (S.cA C) bmB newId = true
  kC : PySem.W.keepIn K (.ref (S.cA C)) = true
  exC : PySem.W.subIn K (.ref (S.cA C)) (.type "BaseException") = some true
  tyC : PySem.W.typeIn K (.ref (S.cA C)) = some (.type "type")
  xf : tb.xf C = some []
  xc : C ∈ S.xcs
/-- what a global name is -/
def GvP (S : Sta) (tb : Tb) (P : Program) (w : World) (K : PySem.W.Frag) (mg : Str → Option Value) (base : Heap) (x : Str) : Gv → Prop
  | .fn i => mg x = some (.ref (S.fA i)) ∧ ∃ fd, tb.fn i = some fd
  | .cls C => mg x = some (.ref (S.cA C)) ∧ C ∈ S.cs ∧ ∃ i fd, tb.ini C = some i ∧ tb.fn i = some fd ∧ Mk K (S.cA C) (S.fA i)
  | .exc C => mg x = some (.ref (S.cA C)) ∧ XcP S tb P w K mg base C
  | .exc0 C => mg x = some (.ref (S.cA C)) ∧ XcQ S tb K C
  | .con d => ∃ v u, mg x = some u ∧ RelV v u ∧ ∀ m H, VR S m H d v
structure PrgIn (G : Gf) (S : Sta) (tb : Tb) (tl : List (Nat × Fd)) (P : Program) (w : World) (K : PySem.W.Frag) (mg : Str → Option Value) (base : Heap) : Prop where
  hK : S.K = K
  xs : S.xs = []
  tbl : ∀ i, tb.fn i = tl.lookup i
  defs : AllN (fun i fd => DefOk G K S i fd) tl
  gls : AllP (GvP S tb P w K mg base) G.gl
  bls : AllB (fun x => mg x = none) G.bl
  hF : ClsF S
  inj : ∀ f g, S.fN f = S.fN g → f = g
  fls : AllP (fun nm f => S.fN f = nm ∧ ∀ c, c ∈ S.cs → NoAttr S.K (S.cA c) nm) G.fl
  sub : ∀ E C, E ∈ S.xcs → C ∈ S.xcs → PySem.W.exmOne K (.ref (S.cA E)) (.ref (S.cA C)) = some (tb.sub E C)
  mes : AllP (fun nm mi => S.fN mi = nm ∧ ∀ c f, c ∈ S.cs → tb.me c mi = some f → Meth S.K (S.cA c) nm (S.fA f) ∧ ∃ fd, tb.fn f = some fd) G.me
theorem prg_of {G : Gf} {S : Sta} {tb : Tb} {tl : List (Nat × Fd)} {P : Program} {w : World} {K : PySem.W.Frag} {mg : Str → Option Value} {base : Heap} (R : PrgIn G S tb tl P w K mg base) : Prg G S tb P w K mg base where
  hK := R.hK
  xs := R.xs
  ga := fun X hK hm => {
    hK := hK.trans R.hK.symm
    hF := R.hF
    L := ⟨R.inj⟩
    con := fun x d e => by rw [hm]; exact R.gls.get e
    fnm := fun x i e => by rw [hm]; exact (R.gls.get e).1
    cls := fun x C e => by rw [hm]; exact ⟨(R.gls.get e).1, (R.gls.get e).2.1⟩
    bl := fun x e => by rw [hm]; exact R.bls.get e
    fl := fun nm f e => (R.fls.get e).1
    no := fun nm f e c hc => by
      have h := R.fls.get e
      rw [h.1]
      exact h.2 c hc }
  df := fun i fd e => by rw [R.tbl] at e; exact R.defs.get e
  fn := fun x i e => (R.gls.get e).2
  mak := fun x C e => (R.gls.get e).2.2
  exc := fun X h1 h2 h3 h4 h5 x C e => by
    obtain ⟨a, b⟩ := R.gls.get e
    refine ⟨by rw [h4]; exact a, by rw [h3]; exact b.T, ?_, b.xc⟩
    rw [h1, h2, h3, h4, h5]
    exact b.ini
  exc0 := fun X h1 h2 h3 h4 h5 x C e => by
    obtain ⟨a, b⟩ := R.gls.get e
    exact ⟨by rw [h4]; exact a, by rw [h3]; exact b.F, by rw [h3]; exact b.kC, by rw [h3]; exact b.exC, by rw [h3]; exact b.tyC, b.xf, b.xc⟩
  sub := R.sub
  me := fun nm mi e => by
    obtain ⟨a, b⟩ := R.mes.get e
    exact ⟨b, fun fl h => R.inj _ _ (h.trans a.symm)⟩
end MP
namespace MP
open PySem PySem.Spec PyProof.Rows L2
def AllL (P : Nat → Prop) : List Nat → Prop
  | [] => True
  | a :: r => P a ∧ AllL P r
theorem AllL.get {P : Nat → Prop} : ∀ {l : List Nat} {x : Nat}, AllL P l → x ∈ l → P x
  | [], _, _, e => by cases e
  | a :: r, x, h, e => by
    rcases List.mem_cons.mp e with e | e
    · rw [e]; exact h.1
    · exact AllL.get h.2 e
theorem kit_of {K : PySem.W.Frag} {t : Value} {C : Addr} {b : Bool} (h2 : PySem.W.isClsIn K C = true) (h3 : PySem.W.typeIn K (.ref C) = some (.type "type")) (h4 : PySem.W.subIn K t (.ref C) = some b) : PySem.W.kitCls K t (.ref C) = some b := by
  have e2 : ((PySem.W.clsIn K C).isSome && PySem.W.typeIn K (.ref C) == some (.type "type")) = true := by
    have h2' : (PySem.W.clsIn K C).isSome = true := h2
    rw [h2', h3] <;> rfl
  show (if ((PySem.W.clsIn K C).isSome && PySem.W.typeIn K (.ref C) == some (.type "type")) = true then PySem.W.subIn K t (.ref C) else none) = some b
  rw [if_pos e2]
  exact h4
theorem exm_of {K : PySem.W.Frag} {t : Value} {C : Addr} {b : Bool} (h1 : PySem.W.subIn K (.ref C) (.type "BaseException") = some true) (h2 : PySem.W.isClsIn K C = true) (h3 : PySem.W.typeIn K (.ref C) = some (.type "type")) (h4 : PySem.W.subIn K t (.ref C) = some b) :
    PySem.W.exmOne K t (.ref C) = some b := by
  have e1 : (PySem.W.subIn K (.ref C) (.type "BaseException") == some true) = true := by rw [h1] <;> rfl
  show (if (PySem.W.subIn K (.ref C) (.type "BaseException") == some true) = true then PySem.W.kitCls K t (.ref C) else none) = some b
  rw [if_pos e1]
  exact kit_of h2 h3 h4
end MP

set_option Elab.async false
set_option linter.all false
set_option maxRecDepth 100000
set_option autoImplicit false
set_option maxHeartbeats 8000000
/-! Mp30: how to reason about our evaluator: what must hold for an end. -/
namespace MP
open PySem

def Rs.wp {α : Type} (r : Rs α) (Q : α → Hh → Prop) (E : Exn → Hh → Prop) : Prop := match r with
  | .ok a h => Q a h
  | .ex e h => E e h
  | .st => False
def Sr.wp (r : Sr) (Q : Fl → Hh → Prop) (E : Exn → PEnv → Hh → Prop) : Prop := match r with
  | .ok f h => Q f h
  | .ex e ρ h => E e ρ h
  | .st => False
section
variable {α β : Type} {Q : α → Hh → Prop} {E : Exn → Hh → Prop} {h : Hh}
theorem wp_ok {a : α} : (Rs.ok a h).wp Q E = Q a h := rfl
theorem wp_ex {e : Exn} : (Rs.ex e h : Rs α).wp Q E = E e h := rfl
theorem wp_st : (Rs.st : Rs α).wp Q E = False := rfl
theorem wp_bind {r : Rs β} {f : β → Hh → Rs α} : (r.bind f).wp Q E = r.wp (fun b h => (f b h).wp Q E) E := by cases r <;> rfl
theorem wp_lift {o : Option α} {a : α} (e : o = some a) : (Rs.lift o h).wp Q E = Q a h := by rw [e]; rfl
theorem wp_lift_some {a : α} : (Rs.lift (some a) h).wp Q E = Q a h := rfl
theorem wp_mono {r : Rs α} {Q' : α → Hh → Prop} {E' : Exn → Hh → Prop} (x : r.wp Q' E') (f : ∀ a h, Q' a h → Q a h) (g : ∀ e h, E' e h → E e h) : r.wp Q E := by
  cases r with
  | ok a h => exact f _ _ x
  | ex e h => exact g _ _ x
  | st => exact x
theorem wp_ite {c : Prop} [Decidable c] {a b : Rs α} : (if c then a else b).wp Q E = if c then a.wp Q E else b.wp Q E := by split <;> rfl
end
section
variable {α : Type} {Q : Fl → Hh → Prop} {E : Exn → PEnv → Hh → Prop} {h : Hh} {ρ : PEnv}
theorem sp_ok {f : Fl} : (Sr.ok f h).wp Q E = Q f h := rfl
theorem sp_ex {e : Exn} : (Sr.ex e ρ h).wp Q E = E e ρ h := rfl
theorem sp_st : Sr.st.wp Q E = False := rfl
theorem sp_toS {r : Rs α} {k : α → Hh → Sr} : (r.toS ρ k).wp Q E = r.wp (fun a h => (k a h).wp Q E) (fun e h => E e ρ h) := by cases r <;> rfl
theorem sp_mono {r : Sr} {Q' : Fl → Hh → Prop} {E' : Exn → PEnv → Hh → Prop} (x : r.wp Q' E') (f : ∀ a h, Q' a h → Q a h) (g : ∀ e ρ h, E' e ρ h → E e ρ h) : r.wp Q E := by
  cases r with
  | ok a h => exact f _ _ x
  | ex e ρ h => exact g _ _ _ x
  | st => exact x
def seqQ (g : PEnv → Hh → Sr) (Q : Fl → Hh → Prop) (E : Exn → PEnv → Hh → Prop) : Fl → Hh → Prop
  | .nx ρ, h => (g ρ h).wp Q E
  | .rt d, h => Q (.rt d) h
  | .bk ρ, h => Q (.bk ρ) h
  | .ct ρ, h => Q (.ct ρ) h
theorem sp_seq {g : PEnv → Hh → Sr} {r : Sr} : (seqK g r).wp Q E = r.wp (seqQ g Q E) E := by
  cases r with
  | ok f h => cases f <;> rfl
  | ex e ρ h => rfl
  | st => rfl
theorem seqQ_nx {g : PEnv → Hh → Sr} {ρ : PEnv} : seqQ g Q E (.nx ρ) h = (g ρ h).wp Q E := rfl
theorem seqQ_rt {g : PEnv → Hh → Sr} {d : D} : seqQ g Q E (.rt d) h = Q (.rt d) h := rfl
theorem seqQ_bk {g : PEnv → Hh → Sr} {ρ : PEnv} : seqQ g Q E (.bk ρ) h = Q (.bk ρ) h := rfl
theorem seqQ_ct {g : PEnv → Hh → Sr} {ρ : PEnv} : seqQ g Q E (.ct ρ) h = Q (.ct ρ) h := rfl
theorem sp_ite {c : Prop} [Decidable c] {a b : Sr} : (if c then a else b).wp Q E = if c then a.wp Q E else b.wp Q E := by split <;> rfl
theorem sp_try {g : Exn → PEnv → Hh → Sr} {r : Sr} : (tryK g r).wp Q E = r.wp Q (fun e ρ h => (g e ρ h).wp Q E) := by cases r <;> rfl
end
theorem bind_ok {α β : Type} {a : α} {h : Hh} {f : α → Hh → Rs β} : (Rs.ok a h).bind f = f a h := rfl
theorem toS_ok {α : Type} {a : α} {h : Hh} {ρ : PEnv} {f : α → Hh → Sr} : (Rs.ok a h).toS ρ f = f a h := rfl
theorem lift_some {α : Type} {a : α} {h : Hh} : Rs.lift (some a) h = .ok a h := rfl
theorem seqK_nx {ρ : PEnv} {h : Hh} {f : PEnv → Hh → Sr} : seqK f (.ok (.nx ρ) h) = f ρ h := rfl
theorem seqK_rt {d : D} {h : Hh} {f : PEnv → Hh → Sr} : seqK f (.ok (.rt d) h) = .ok (.rt d) h := rfl
/-- a call's end -/
def calQ (Q : D → Hh → Prop) : Fl → Hh → Prop
  | .nx _, h => Q .non h
  | .rt d, h => Q d h
  | _, _ => False
theorem calQ_nx {Q : D → Hh → Prop} {ρ : PEnv} {h : Hh} : calQ Q (.nx ρ) h = Q .non h := rfl
theorem calQ_rt {Q : D → Hh → Prop} {d : D} {h : Hh} : calQ Q (.rt d) h = Q d h := rfl
theorem cal_wp {tb : Tb} {k f : Nat} {ds : List D} {h : Hh} {Q : D → Hh → Prop} {E : Exn → Hh → Prop} {fd : Fd} (hf : tb.fn f = some fd) (ha : ds.length = fd.ar)
    (x : (exs (cal tb k) tb fd.body none (startE fd.ns ds) h).wp (calQ Q) (fun e _ h => E e h)) : (cal tb (k + 1) f ds h).wp Q E := by
  unfold cal
  rw [hf]
  dsimp only
  rw [if_pos (by simp [ha])]
  revert x
  cases exs (cal tb k) tb fd.body none (startE fd.ns ds) h with
  | ok f h' => cases f <;> exact fun x => x
  | ex e ρ h' => exact fun x => x
  | st => exact fun x => x
/-- the heap has grown -/
def Gr (h h' : Hh) : Prop := ∃ g, h' = h ++ g
theorem Gr.refl (h : Hh) : Gr h h := ⟨[], by simp⟩
theorem Gr.trans {a b c : Hh} (x : Gr a b) (y : Gr b c) : Gr a c := by
  obtain ⟨g, rfl⟩ := x
  obtain ⟨k, rfl⟩ := y
  exact ⟨g ++ k, by rw [List.append_assoc]⟩
theorem Gr.push (h : Hh) (o : Ob) : Gr h (h ++ [o]) := ⟨[o], rfl⟩
theorem Gr.get {h h' : Hh} (x : Gr h h') {i : Nat} {o : Ob} (e : h[i]? = some o) : h'[i]? = some o := by
  obtain ⟨g, rfl⟩ := x
  rw [List.getElem?_append_left (List.getElem?_eq_some_iff.mp e).1]
  exact e
theorem Gr.len {h h' : Hh} (x : Gr h h') : h.length ≤ h'.length := by
  obtain ⟨g, rfl⟩ := x
  simp
theorem get_push (h : Hh) (o : Ob) : (h ++ [o])[h.length]? = some o := by simp
/-- the turns of a comprehension over items that are there -/
theorem lc_wp {nxt : Nxt} {f : D → Hh → Rs (Option D)} {Q : D → Hh → Prop} {E : Exn → Hh → Prop} (items : List D) (P : Nat → List D → Hh → Prop)
    (hn : ∀ i acc h, i ≤ items.length → P i acc h → nxt h i = some items[i]?)
    (hs : ∀ i x acc h, items[i]? = some x → P i acc h → (f x h).wp (fun o h' => match o with | some y => acc.length < SL ∧ P (i + 1) (acc ++ [y]) h' | none => P (i + 1) acc h') fun _ _ => False)
    (he : ∀ acc h, P items.length acc h → Q (.ref h.length) (h ++ [.lst acc])) :
    ∀ (k i : Nat) (acc : List D) (h : Hh), i + k = items.length → P i acc h → (lcLoop nxt f k i acc h).wp Q E := by
  intro k
  induction k with
  | zero =>
    intro i acc h hi p
    unfold lcLoop
    rw [hn i acc h (by omega) p, List.getElem?_eq_none (by omega)]
    have e : i = items.length := by omega
    subst e
    exact he acc h p
  | succ k ih =>
    intro i acc h hi p
    have hlt : i < items.length := by omega
    unfold lcLoop
    rw [hn i acc h (by omega) p, List.getElem?_eq_getElem hlt]
    dsimp only
    have s := hs i items[i] acc h (List.getElem?_eq_getElem hlt) p
    revert s
    cases f items[i] h with
    | st => exact fun s => False.elim s
    | ex e h' => exact fun s => False.elim s
    | ok o h' =>
      cases o with
      | none => exact fun s => ih (i + 1) acc h' (by omega) s
      | some y =>
        intro s
        obtain ⟨s1, s2⟩ := s
        dsimp only
        rw [if_pos s1]
        exact ih (i + 1) (acc ++ [y]) h' (by omega) s2
/-- the turns of a for over items that are there -/
theorem for_wp {nxt : Nxt} {body : D → PEnv → Hh → Sr} {Q : Fl → Hh → Prop} {E : Exn → PEnv → Hh → Prop} (items : List D) (P : Nat → PEnv → Hh → Prop)
    (hn : ∀ i ρ h, i ≤ items.length → P i ρ h → nxt h i = some items[i]?)
    (hs : ∀ i x ρ h, items[i]? = some x → P i ρ h → (body x ρ h).wp (fun f h' => match f with | .nx ρ' => P (i + 1) ρ' h' | .ct ρ' => P (i + 1) ρ' h' | .bk ρ' => Q (.nx ρ') h' | .rt d => Q (.rt d) h') E)
    (he : ∀ ρ h, P items.length ρ h → Q (.nx ρ) h) :
    ∀ (k i : Nat) (ρ : PEnv) (h : Hh), i + k = items.length → P i ρ h → (forLoop nxt body k i ρ h).wp Q E := by
  intro k
  induction k with
  | zero =>
    intro i ρ h hi p
    unfold forLoop
    rw [hn i ρ h (by omega) p, List.getElem?_eq_none (by omega)]
    have e : i = items.length := by omega
    subst e
    exact he ρ h p
  | succ k ih =>
    intro i ρ h hi p
    have hlt : i < items.length := by omega
    unfold forLoop
    rw [hn i ρ h (by omega) p, List.getElem?_eq_getElem hlt]
    dsimp only
    have s := hs i items[i] ρ h (List.getElem?_eq_getElem hlt) p
    revert s
    cases body items[i] ρ h with
    | st => exact fun s => False.elim s
    | ex e ρ' h' => exact fun s => s
    | ok f h' =>
      cases f with
      | nx ρ' => exact fun s => ih (i + 1) ρ' h' (by omega) s
      | ct ρ' => exact fun s => ih (i + 1) ρ' h' (by omega) s
      | bk ρ' => exact fun s => s
      | rt d => exact fun s => s
end MP

set_option Elab.async false
set_option linter.all false
set_option maxRecDepth 100000
set_option autoImplicit false
set_option maxHeartbeats 8000000
/-! Mp31: what the operations give at known values. -/
namespace MP
open PySem
theorem eqD_int {h : Hh} {a b : Int} : eqD h (.int a) (.int b) = some (a == b) := by
  unfold eqD eqD0 pd
  rfl
theorem at0 {α : Type} {a : α} {l : List α} : L2.atI (a :: l) 0 = some a := by
  unfold L2.atI L2.ixN
  simp
theorem at1 {α : Type} {a b : α} {l : List α} : L2.atI (a :: b :: l) 1 = some b := by
  unfold L2.atI L2.ixN
  rw [if_pos (by decide), if_pos (by simp only [List.length_cons]; omega)]
  rfl
theorem at2 {α : Type} {a b c : α} {l : List α} : L2.atI (a :: b :: c :: l) 2 = some c := by
  unfold L2.atI L2.ixN
  rw [if_pos (by decide), if_pos (by simp only [List.length_cons]; omega)]
  rfl
theorem at3 {α : Type} {a b c d : α} {l : List α} : L2.atI (a :: b :: c :: d :: l) 3 = some d := by
  unfold L2.atI L2.ixN
  rw [if_pos (by decide), if_pos (by simp only [List.length_cons]; omega)]
  rfl
theorem ixD_ref {h : Hh} {n : Nat} {l : List D} (e : h[n]? = some (.lst l)) (i : Int) : ixD (.ref n) (.int i) h = Rs.lift (L2.atI l i) h := by
  unfold ixD
  dsimp only
  rw [e]
theorem at_nat {α : Type} {l : List α} {i : Int} (h0 : 0 ≤ i) (h1 : i < l.length) : L2.atI l i = l[i.toNat]? := by
  unfold L2.atI L2.ixN
  rw [if_pos h0, if_pos h1]
  rfl
theorem lenD_ref {h : Hh} {n : Nat} {l : List D} (e : h[n]? = some (.lst l)) : lenD [.ref n] h = .ok (.int l.length) h := by
  unfold lenD
  dsimp only
  rw [e]
theorem addD_int {h : Hh} {i j : Int} : addD (.int i) (.int j) h = .ok (.int (i + j)) h := rfl
theorem mulD_int {h : Hh} {i j : Int} : mulD (.int i) (.int j) h = if i.natAbs < 2 ^ 64 || j.natAbs < 2 ^ 64 || i.natAbs.log2 + j.natAbs.log2 < 1000000 then .ok (.int (i * j)) h else .st := rfl
theorem mulD_r {h : Hh} {i j : Int} (hj : j.natAbs < 2 ^ 64) : mulD (.int i) (.int j) h = .ok (.int (i * j)) h := by
  rw [mulD_int, if_pos (by simp [hj])]
theorem if_tt {α : Type} {a b : α} : (if true = true then a else b) = a := rfl
theorem if_ff {α : Type} {a b : α} : (if false = true then a else b) = b := rfl
theorem ixs_ref {h : Hh} {ρ : PEnv} {n : Nat} {l : List D} {d : D} {i : Int} {j : Nat} (e : h[n]? = some (.lst l)) (hi : L2.ixN l.length i = some j) : ixsK ρ d (.ref n) (.int i) h = .ok (.nx ρ) (h.set n (.lst (l.set j d))) := by
  unfold ixsK
  dsimp only
  rw [e]
  dsimp only
  rw [hi]
theorem set_get {h : Hh} {n : Nat} {o o' : Ob} (e : h[n]? = some o) : (h.set n o')[n]? = some o' := by
  rw [List.getElem?_set_self (List.getElem?_eq_some_iff.mp e).1]
theorem set_get_ne {h : Hh} {n m : Nat} {o o' : Ob} (e : h[m]? = some o) (hne : n ≠ m) : (h.set n o')[m]? = some o := by
  rw [List.getElem?_set_ne hne]; exact e
/-- one statement, then the rest -/
theorem sp_cons {cf : Nat → List D → Hh → Rs D} {tb : Tb} {s : S} {ss : Ss} {c : Option Exn} {ρ : PEnv} {h : Hh} {Q : Fl → Hh → Prop} {E : Exn → PEnv → Hh → Prop} (x : (ex cf tb s c ρ h).wp (seqQ (exs cf tb ss c) Q E) E) : (exs cf tb (.cons s ss) c ρ h).wp Q E := by
  rw [exs_cons, sp_seq]
  exact x
end MP
namespace MP
open PySem
theorem eqD_str {h : Hh} {a b : Str} : eqD h (.str a) (.str b) = some (a == b) := rfl
theorem inD_str {h : Hh} {c : Nat} {z : Str} : inD h (.str ⟨#[c]⟩) (.str z) = some (decide (c ∈ z.cps.toList)) := by
  unfold inD
  exact congrArg some (StrLaws.found_one z c)
/-- a comprehension that gives g of each item -/
theorem lc_map {nxt : Nxt} {f : D → Hh → Rs (Option D)} {Q : D → Hh → Prop} {E : Exn → Hh → Prop} (items : List D) (g : D → D) (h0 : Hh) {n : Nat} (hk : n = items.length) (hlen : items.length ≤ SL)
    (hn : ∀ (i : Nat) (h : Hh), Gr h0 h → nxt h i = some items[i]?)
    (hs : ∀ (i : Nat) (x : D) (h : Hh), items[i]? = some x → Gr h0 h → (f x h).wp (fun o h' => o = some (g x) ∧ Gr h h') fun _ _ => False)
    (he : ∀ h, Gr h0 h → Q (.ref h.length) (h ++ [.lst (items.map g)])) : (lcLoop nxt f n 0 [] h0).wp Q E := by
  subst hk
  refine lc_wp items (fun i acc h => acc = (items.take i).map g ∧ Gr h0 h) (fun i acc h _ p => hn i h p.2) (fun i x acc h hx p => ?_) (fun acc h p => ?_) _ 0 [] h0 (by omega) ⟨by simp, Gr.refl _⟩
  · refine wp_mono (hs i x h hx p.2) (fun o h' ⟨e, gr⟩ => ?_) fun _ _ z => z
    subst e
    have hlt := (List.getElem?_eq_some_iff.mp hx).1
    refine ⟨?_, ?_, p.2.trans gr⟩
    · rw [p.1, List.length_map, List.length_take]
      omega
    · have e2 : items.take (i + 1) = items.take i ++ [x] := by
        rw [List.take_add_one, hx]; rfl
      rw [p.1, e2, List.map_append]; rfl
  · rw [p.1, List.take_length]
    exact he h p.2
theorem dBls_map : ∀ bs : List Bool, dBls (bs.map .bl) = some bs
  | [] => rfl
  | b :: bs => by simp only [List.map_cons, dBls, dBls_map bs, Option.map_some]
theorem allD_ref {h : Hh} {n : Nat} {bs : List Bool} (e : h[n]? = some (.lst (bs.map .bl))) : allD [.ref n] h = .ok (.bl (bs.all id)) h := by
  unfold allD lstD
  dsimp only
  rw [e]
  dsimp only [Option.bind]
  rw [dBls_map]
theorem ev_lc_wp {cf : Nat → List D → Hh → Rs D} {tb : Tb} {cur : Option Exn} {elt : E} {tg : Tg} {it : It} {c : Eo} {own : List Nat} {ρ : PEnv} {h : Hh} : ev cf tb cur (.lc elt tg it c own) ρ h = (evIt cf tb cur it ρ h).bind fun J h1 => lcLoop J.nxt (lcTurn tg own (evC cf tb cur c) (ev cf tb cur elt) ρ) J.fuel 0 [] h1 := by rw [ev_lc]
/-- the characters of a text -/
def chrs (s : Str) : List D := s.cps.toList.map fun c => .str ⟨#[c]⟩
theorem itSeq_str {h : Hh} {s : Str} : itSeq (.str s) h = .ok ⟨s.length, fun _ i => some (chrs s)[i]?⟩ h := by
  unfold itSeq chrs
  simp only [List.getElem?_map, Array.getElem?_toList]
theorem itSeq_ref {h : Hh} {n : Nat} {l : List D} (e : h[n]? = some (.lst l)) : itSeq (.ref n) h = .ok ⟨l.length, lstNx n⟩ h := by
  unfold itSeq
  dsimp only
  rw [e]
theorem lstNx_gr {h0 h : Hh} {n : Nat} {l : List D} (e : h0[n]? = some (.lst l)) (g : Gr h0 h) (i : Nat) : lstNx n h i = some l[i]? := by
  unfold lstNx
  rw [g.get e]
end MP
namespace MP
open PySem
section
variable (cf : Nat → List D → Hh → Rs D) (tb : Tb) (cur : Option Exn)
theorem evT_bif (b : Bf) (es : Es) : evT cf tb cur (.bif b es) = fun ρ h => (ev cf tb cur (.bif b es) ρ h).bind truK := evT_oth cf tb cur rfl
theorem evT_slot (i : Nat) : evT cf tb cur (.slot i) = fun ρ h => (ev cf tb cur (.slot i) ρ h).bind truK := evT_oth cf tb cur rfl
theorem evT_call (f : Nat) (es : Es) : evT cf tb cur (.call f es) = fun ρ h => (ev cf tb cur (.call f es) ρ h).bind truK := evT_oth cf tb cur rfl
theorem evT_meth (a : E) (m : Nat) (es : Es) : evT cf tb cur (.meth a m es) = fun ρ h => (ev cf tb cur (.meth a m es) ρ h).bind truK := evT_oth cf tb cur rfl
theorem evT_isi (a : E) (ts : List Ty) : evT cf tb cur (.isi a ts) = fun ρ h => (ev cf tb cur (.isi a ts) ρ h).bind truK := evT_oth cf tb cur rfl
theorem evT_ix (a b : E) : evT cf tb cur (.ix a b) = fun ρ h => (ev cf tb cur (.ix a b) ρ h).bind truK := evT_oth cf tb cur rfl
theorem evT_fld (a : E) (i : Nat) : evT cf tb cur (.fld a i) = fun ρ h => (ev cf tb cur (.fld a i) ρ h).bind truK := evT_oth cf tb cur rfl
theorem evT_bl (b : Bool) : evT cf tb cur (.bl b) = fun ρ h => (ev cf tb cur (.bl b) ρ h).bind truK := evT_oth cf tb cur rfl
end
theorem tru_bl {h : Hh} {b : Bool} : tru h (.bl b) = some b := rfl
theorem tysD_1 {h : Hh} {a : D} {t : Ty} {b : Bool} (e : tyD h a t = some b) : tysD h a [t] = some b := by
  unfold tysD
  rw [e]
  cases b <;> rfl
end MP
namespace MP
theorem isN_non : isNon .non = true := rfl
theorem isN_int {i : Int} : isNon (.int i) = false := rfl
theorem isN_bl {i : Bool} : isNon (.bl i) = false := rfl
theorem isN_str {i : PySem.Str} : isNon (.str i) = false := rfl
theorem isN_tup {i : List D} : isNon (.tup i) = false := rfl
theorem isN_ref {i : Nat} : isNon (.ref i) = false := rfl
end MP
namespace MP
open PySem
def endQ (i : Nat) (Q : Fl → Hh → Prop) : Fl → Hh → Prop
  | .nx ρ, h => Q (.nx (ρ.set i none)) h
  | .bk ρ, h => Q (.bk (ρ.set i none)) h
  | .ct ρ, h => Q (.ct (ρ.set i none)) h
  | .rt d, h => Q (.rt d) h
theorem endQ_nx {i : Nat} {Q : Fl → Hh → Prop} {ρ : PEnv} {h : Hh} : endQ i Q (.nx ρ) h = Q (.nx (ρ.set i none)) h := rfl
theorem endQ_rt {i : Nat} {Q : Fl → Hh → Prop} {d : D} {h : Hh} : endQ i Q (.rt d) h = Q (.rt d) h := rfl
theorem sp_endK {i : Nat} {r : Sr} {Q : Fl → Hh → Prop} {E : Exn → PEnv → Hh → Prop} : (endK i r).wp Q E = r.wp (endQ i Q) (fun _ _ _ => False) := by
  cases r with
  | ok f h => cases f <;> rfl
  | ex e ρ h => rfl
  | st => rfl
theorem exh_cons {cf : Nat → List D → Hh → Rs D} {tb : Tb} {C : Nat} {i : Option Nat} {b : Ss} {hs : Hs} {e : Exn} {ρ : PEnv} {h : Hh} : exh cf tb (.cons C i b hs) e ρ h = if tb.sub e.cls C then hdlK i ρ (fun ρ' => exs cf tb b (some e) ρ' h) else exh cf tb hs e ρ h := by rw [exh]
theorem exh_nil {cf : Nat → List D → Hh → Rs D} {tb : Tb} {e : Exn} {ρ : PEnv} {h : Hh} : exh cf tb .nil e ρ h = .ex e ρ h := by rw [exh]
theorem hdl_as {i : Nat} {ρ : PEnv} {f : PEnv → Sr} : hdlK (some i) ρ f = if i < ρ.length then endK i (f (ρ.set i none)) else .st := rfl
end MP
namespace MP
open PySem
theorem ty_int_int {h : Hh} {i : Int} : tyD h (.int i) .int = some true := rfl
theorem ty_int_bool {h : Hh} {i : Int} : tyD h (.int i) .bool = some false := rfl
theorem ty_int_str {h : Hh} {i : Int} : tyD h (.int i) .str = some false := rfl
theorem ty_int_tuple {h : Hh} {i : Int} : tyD h (.int i) .tuple = some false := rfl
theorem ty_int_list {h : Hh} {i : Int} : tyD h (.int i) .list = some false := rfl
theorem ty_bl_int {h : Hh} {i : Bool} : tyD h (.bl i) .int = some true := rfl
theorem ty_bl_bool {h : Hh} {i : Bool} : tyD h (.bl i) .bool = some true := rfl
theorem ty_bl_str {h : Hh} {i : Bool} : tyD h (.bl i) .str = some false := rfl
theorem ty_bl_tuple {h : Hh} {i : Bool} : tyD h (.bl i) .tuple = some false := rfl
theorem ty_bl_list {h : Hh} {i : Bool} : tyD h (.bl i) .list = some false := rfl
theorem ty_str_int {h : Hh} {i : Str} : tyD h (.str i) .int = some false := rfl
theorem ty_str_bool {h : Hh} {i : Str} : tyD h (.str i) .bool = some false := rfl
theorem ty_str_str {h : Hh} {i : Str} : tyD h (.str i) .str = some true := rfl
theorem ty_str_tuple {h : Hh} {i : Str} : tyD h (.str i) .tuple = some false := rfl
theorem ty_str_list {h : Hh} {i : Str} : tyD h (.str i) .list = some false := rfl
theorem ty_tup_int {h : Hh} {i : List D} : tyD h (.tup i) .int = some false := rfl
theorem ty_tup_bool {h : Hh} {i : List D} : tyD h (.tup i) .bool = some false := rfl
theorem ty_tup_str {h : Hh} {i : List D} : tyD h (.tup i) .str = some false := rfl
theorem ty_tup_tuple {h : Hh} {i : List D} : tyD h (.tup i) .tuple = some true := rfl
theorem ty_tup_list {h : Hh} {i : List D} : tyD h (.tup i) .list = some false := rfl
theorem ty_non_int {h : Hh}  : tyD h .non .int = some false := rfl
theorem ty_non_bool {h : Hh}  : tyD h .non .bool = some false := rfl
theorem ty_non_str {h : Hh}  : tyD h .non .str = some false := rfl
theorem ty_non_tuple {h : Hh}  : tyD h .non .tuple = some false := rfl
theorem ty_non_list {h : Hh}  : tyD h .non .list = some false := rfl
theorem ty_frz_int {h : Hh} {i : List D} : tyD h (.frz i) .int = some false := rfl
theorem ty_frz_bool {h : Hh} {i : List D} : tyD h (.frz i) .bool = some false := rfl
theorem ty_frz_str {h : Hh} {i : List D} : tyD h (.frz i) .str = some false := rfl
theorem ty_frz_tuple {h : Hh} {i : List D} : tyD h (.frz i) .tuple = some false := rfl
theorem ty_frz_list {h : Hh} {i : List D} : tyD h (.frz i) .list = some true := rfl
theorem ty_lst {h : Hh} {n : Nat} {l : List D} (e : h[n]? = some (.lst l)) (t : Ty) : tyD h (.ref n) t = some (t == .list) := by
  unfold tyD
  dsimp only
  rw [e]
theorem tq_int : (Ty.int == Ty.list) = false := rfl
theorem tq_bool : (Ty.bool == Ty.list) = false := rfl
theorem tq_str : (Ty.str == Ty.list) = false := rfl
theorem tq_tuple : (Ty.tuple == Ty.list) = false := rfl
theorem tq_list : (Ty.list == Ty.list) = true := rfl
end MP
namespace MP
open PySem
theorem zipN_same {J K : Itr} {h : Hh} {i : Nat} {l : List D} (e1 : J.nxt h i = some l[i]?) (e2 : K.nxt h i = some l[i]?) : zipN false J K h i = some (l.map fun d => D.tup [d, d])[i]? := by
  unfold zipN
  rw [e1, e2, List.getElem?_map]
  cases l[i]? <;> rfl
theorem zipI_tup {h : Hh} {l m : List D} : zipI false (.tup l) (.tup m) h = .ok ⟨min l.length m.length, zipN false ⟨l.length, fun _ i => some l[i]?⟩ ⟨m.length, fun _ i => some m[i]?⟩⟩ h := rfl
theorem zipI_lst {h : Hh} {a b : Nat} {l m : List D} (ea : h[a]? = some (.lst l)) (eb : h[b]? = some (.lst m)) : zipI false (.ref a) (.ref b) h = .ok ⟨min l.length m.length, zipN false ⟨l.length, lstNx a⟩ ⟨m.length, lstNx b⟩⟩ h := by
  have l1 : lstD h (.ref a) = some l := by unfold lstD; dsimp only; rw [ea]
  have l2 : lstD h (.ref b) = some m := by unfold lstD; dsimp only; rw [eb]
  have ok : (!false && zipOk h (.ref a) (.ref b)) = true := by unfold zipOk; rw [l1, l2]; rfl
  unfold zipI
  rw [if_pos ok, itSeq_ref ea, bind_ok, itSeq_ref eb, bind_ok]
  rfl
theorem lenD_tup {h : Hh} {l : List D} : lenD [.tup l] h = .ok (.int l.length) h := rfl
theorem map_true (l : List D) : l.map (fun _ => D.bl true) = (l.map fun _ => true).map D.bl := by
  rw [List.map_map]; rfl
theorem all_true (l : List D) : (l.map fun _ => true).all id = true := by
  induction l with
  | nil => rfl
  | cons d l ih => rw [List.map_cons, List.all_cons, ih]; rfl
end MP

namespace MPk77
open PySem PySem.Spec L2 MP
def G : Gf := ⟨[("parse_number", .fn 178), ("parse_positions", .fn 180), ("parse_state", .fn 182), ("_law_draw", .fn 1001), ("_law_equal", .fn 1002), ("_law_parse_number", .fn 1003), ("_law_parse_positions", .fn 1004), ("_law_mutated", .fn 1005), ("_law_outcome", .fn 1006), ("law", .fn 1007), ("RingError", .exc0 26), ("ParseError", .exc 22), ("DIGITS", .con (.str "0123456789"))], ["all", "bool", "int", "isinstance", "len", "list", "range", "str", "tuple", "zip"], [("line", 49)], []⟩
abbrev s_parse_number : Stmt := (PySem.Challenge.pw_barringrings_k77_mutated_state_texts.main.body.getD 5 (.Pass ⟨0, 0, 0, 0⟩))
def b_parse_number : Ss := (.cons (.ife (.or (.cmp .eq (.slot 0) (.str "")) (.not (.bif .all (.cons (.lc (.cmp .inn (.slot 1) (.con (.str "0123456789"))) (.nm 1) (.seq (.slot 0)) .no [1]) .nil)))) (.cons (.ret .non)
  .nil) .nil)
  (.cons (.ret (.ite (.or (.cmp .eq (.slot 0) (.str "0")) (.cmp .ne (.ix (.slot 0) (.int 0)) (.str "0"))) (.bif .int (.cons (.slot 0) .nil)) .non))
  .nil))
theorem co_parse_number : cSs G SF ⟨["word", "sign"], defScope s_parse_number, true, none, true⟩ (defBody s_parse_number) = some b_parse_number := by kernel_rfl
theorem sc_parse_number : FnScope ["word", "sign"] ["word"] (defScope s_parse_number) := ⟨rfl, rfl, rfl, by decide +kernel, rfl, by decide +kernel, by decide +kernel⟩
def d_parse_number : Fd := ⟨1, 2, b_parse_number⟩
abbrev s_parse_positions : Stmt := (PySem.Challenge.pw_barringrings_k77_mutated_state_texts.main.body.getD 6 (.Pass ⟨0, 0, 0, 0⟩))
def b_parse_positions : Ss := (.cons (.asg (.nm 1) (.lc (.call 178 (.cons (.slot 2) .nil)) (.nm 2) (.seq (.bm .split (.slot 0) (.cons (.str ".") .nil))) .no [2]))
  (.cons (.ret (.ite (.cmp .inn .non (.slot 1)) .non (.bif .tuple (.cons (.slot 1) .nil))))
  .nil))
theorem co_parse_positions : cSs G SF ⟨["word", "numbers", "part"], defScope s_parse_positions, true, none, true⟩ (defBody s_parse_positions) = some b_parse_positions := by kernel_rfl
theorem sc_parse_positions : FnScope ["word", "numbers", "part"] ["word"] (defScope s_parse_positions) := ⟨rfl, rfl, rfl, by decide +kernel, rfl, by decide +kernel, by decide +kernel⟩
def d_parse_positions : Fd := ⟨1, 3, b_parse_positions⟩
abbrev s_parse_state : Stmt := (PySem.Challenge.pw_barringrings_k77_mutated_state_texts.main.body.getD 7 (.Pass ⟨0, 0, 0, 0⟩))
def b_parse_state : Ss := (.cons (.asg (.nm 1) (.ite (.isi (.slot 0) [.str]) (.call 180 (.cons (.slot 0) .nil)) .non))
  (.cons (.ife (.isN (.slot 1)) (.cons (.rai 22 (.cons (.int 0) .nil))
  .nil) .nil)
  (.cons (.ret (.slot 1))
  .nil)))
theorem co_parse_state : cSs G SF ⟨["text", "state"], defScope s_parse_state, true, none, true⟩ (defBody s_parse_state) = some b_parse_state := by kernel_rfl
theorem sc_parse_state : FnScope ["text", "state"] ["text"] (defScope s_parse_state) := ⟨rfl, rfl, rfl, by decide +kernel, rfl, by decide +kernel, by decide +kernel⟩
def d_parse_state : Fd := ⟨1, 2, b_parse_state⟩
abbrev s__law_draw : Stmt := (PySem.Challenge.pw_barringrings_k77_mutated_state_texts.main.body.getD 9 (.Pass ⟨0, 0, 0, 0⟩))
def b__law_draw : Ss := (.cons (.ife (.cmp .eq (.ix (.slot 0) (.int 2)) (.int 0)) (.cons (.asg (.nm 3) (.ite (.cmp .lt (.ix (.slot 0) (.int 1)) (.bif .len (.cons (.ix (.slot 0) (.int 0)) .nil))) (.ix (.ix (.slot 0) (.int 0)) (.ix (.slot 0) (.int 1))) (.int 0)))
  (.cons (.ixs (.slot 0) (.int 1) (.bin .add (.ix (.slot 0) (.int 1)) (.int 1)))
  (.cons (.ife (.cmp .lt (.slot 3) (.bin .pow (.int 10) (.int 18))) (.cons (.ixs (.slot 0) (.int 3) (.bin .mod (.bin .add (.bin .add (.bin .mul (.ix (.slot 0) (.int 3)) (.int 48271)) (.bin .mod (.slot 3) (.int 2147483629))) (.ix (.slot 0) (.int 1))) (.int 2147483647)))
  (.cons (.ret (.bin .mod (.bin .fdiv (.bin .mod (.bin .mul (.ix (.slot 0) (.int 3)) (.ix (.slot 0) (.int 3))) (.int 2147483629)) (.int 7)) (.slot 1)))
  .nil)) .nil)
  (.cons (.ixs (.slot 0) (.int 2) (.slot 3))
  .nil)))) .nil)
  (.cons (.asg (.nm 2) (.bin .mod (.ix (.slot 0) (.int 2)) (.slot 1)))
  (.cons (.ixs (.slot 0) (.int 2) (.bin .fdiv (.ix (.slot 0) (.int 2)) (.slot 1)))
  (.cons (.ret (.slot 2))
  .nil))))
theorem co__law_draw : cSs G SF ⟨["_law_pool", "_law_count", "_law_result", "_law_cell"], defScope s__law_draw, true, none, true⟩ (defBody s__law_draw) = some b__law_draw := by kernel_rfl
theorem sc__law_draw : FnScope ["_law_pool", "_law_count", "_law_result", "_law_cell"] ["_law_pool", "_law_count"] (defScope s__law_draw) := ⟨rfl, rfl, rfl, by decide +kernel, rfl, by decide +kernel, by decide +kernel⟩
def d__law_draw : Fd := ⟨2, 4, b__law_draw⟩
abbrev s__law_equal : Stmt := (PySem.Challenge.pw_barringrings_k77_mutated_state_texts.main.body.getD 10 (.Pass ⟨0, 0, 0, 0⟩))
def b__law_equal : Ss := (.cons (.ife (.isi (.slot 1) [.list, .tuple]) (.cons (.asg (.nm 2) (.ite (.isi (.slot 1) [.list]) (.isi (.slot 0) [.list]) (.isi (.slot 0) [.tuple])))
  (.cons (.ife (.or (.not (.slot 2)) (.cmp .ne (.bif .len (.cons (.slot 0) .nil)) (.bif .len (.cons (.slot 1) .nil)))) (.cons (.ret (.bl false))
  .nil) .nil)
  (.cons (.ret (.bif .all (.cons (.lc (.call 1002 (.cons (.slot 3) (.cons (.slot 4) .nil))) (.tp (.cons (.nm 3) (.cons (.nm 4) .nil))) (.zip false (.slot 0) (.slot 1)) .no [3, 4]) .nil)))
  .nil))) .nil)
  (.cons (.ife (.or (.isN (.slot 1)) (.isN (.slot 0))) (.cons (.ret (.and (.isN (.slot 1)) (.isN (.slot 0))))
  .nil) .nil)
  (.cons (.ife (.or (.isi (.slot 1) [.bool]) (.isi (.slot 0) [.bool])) (.cons (.ret (.and (.isi (.slot 1) [.bool]) (.and (.isi (.slot 0) [.bool]) (.cmp .eq (.slot 0) (.slot 1)))))
  .nil) .nil)
  (.cons (.ife (.isi (.slot 1) [.int]) (.cons (.ret (.and (.isi (.slot 0) [.int]) (.cmp .eq (.slot 0) (.slot 1))))
  .nil) .nil)
  (.cons (.ret (.and (.isi (.slot 0) [.str]) (.cmp .eq (.slot 0) (.slot 1))))
  .nil)))))
theorem co__law_equal : cSs G SF ⟨["_law_result", "_law_expected", "_law_like", "_law_one", "_law_other"], defScope s__law_equal, true, none, true⟩ (defBody s__law_equal) = some b__law_equal := by kernel_rfl
theorem sc__law_equal : FnScope ["_law_result", "_law_expected", "_law_like", "_law_one", "_law_other"] ["_law_result", "_law_expected"] (defScope s__law_equal) := ⟨rfl, rfl, rfl, by decide +kernel, rfl, by decide +kernel, by decide +kernel⟩
def d__law_equal : Fd := ⟨2, 5, b__law_equal⟩
abbrev s__law_parse_number : Stmt := (PySem.Challenge.pw_barringrings_k77_mutated_state_texts.main.body.getD 11 (.Pass ⟨0, 0, 0, 0⟩))
def b__law_parse_number : Ss := (.cons (.ife (.or (.cmp .eq (.slot 0) (.str "")) (.not (.bif .all (.cons (.lc (.cmp .inn (.slot 1) (.str "0123456789")) (.nm 1) (.seq (.slot 0)) .no [1]) .nil)))) (.cons (.ret .non)
  .nil) .nil)
  (.cons (.ife (.and (.cmp .gt (.bif .len (.cons (.slot 0) .nil)) (.int 1)) (.cmp .eq (.ix (.slot 0) (.int 0)) (.str "0"))) (.cons (.ret .non)
  .nil) .nil)
  (.cons (.ret (.bif .int (.cons (.slot 0) .nil)))
  .nil)))
theorem co__law_parse_number : cSs G SF ⟨["_law_word", "_law_sign"], defScope s__law_parse_number, true, none, true⟩ (defBody s__law_parse_number) = some b__law_parse_number := by kernel_rfl
theorem sc__law_parse_number : FnScope ["_law_word", "_law_sign"] ["_law_word"] (defScope s__law_parse_number) := ⟨rfl, rfl, rfl, by decide +kernel, rfl, by decide +kernel, by decide +kernel⟩
def d__law_parse_number : Fd := ⟨1, 2, b__law_parse_number⟩
abbrev s__law_parse_positions : Stmt := (PySem.Challenge.pw_barringrings_k77_mutated_state_texts.main.body.getD 12 (.Pass ⟨0, 0, 0, 0⟩))
def b__law_parse_positions : Ss := (.cons (.asg (.nm 1) (.lc (.call 1003 (.cons (.slot 2) .nil)) (.nm 2) (.seq (.bm .split (.slot 0) (.cons (.str ".") .nil))) .no [2]))
  (.cons (.ife (.cmp .inn .non (.slot 1)) (.cons (.ret .non)
  .nil) .nil)
  (.cons (.ret (.bif .tuple (.cons (.slot 1) .nil)))
  .nil)))
theorem co__law_parse_positions : cSs G SF ⟨["_law_word", "_law_numbers", "_law_part"], defScope s__law_parse_positions, true, none, true⟩ (defBody s__law_parse_positions) = some b__law_parse_positions := by kernel_rfl
theorem sc__law_parse_positions : FnScope ["_law_word", "_law_numbers", "_law_part"] ["_law_word"] (defScope s__law_parse_positions) := ⟨rfl, rfl, rfl, by decide +kernel, rfl, by decide +kernel, by decide +kernel⟩
def d__law_parse_positions : Fd := ⟨1, 3, b__law_parse_positions⟩
abbrev s__law_mutated : Stmt := (PySem.Challenge.pw_barringrings_k77_mutated_state_texts.main.body.getD 13 (.Pass ⟨0, 0, 0, 0⟩))
def b__law_mutated : Ss := (.cons (.asg (.nm 2) (.call 1001 (.cons (.slot 0) (.cons (.int 4) .nil))))
  (.cons (.asg (.nm 3) (.call 1001 (.cons (.slot 0) (.cons (.bin .add (.bif .len (.cons (.slot 1) .nil)) (.int 1)) .nil))))
  (.cons (.asg (.nm 4) (.ix (.str "0123456789 .-*\nx+_") (.call 1001 (.cons (.slot 0) (.cons (.int 18) .nil)))))
  (.cons (.ife (.cmp .eq (.slot 2) (.int 0)) (.cons (.ret (.bin .add (.sl (.slot 1) .no (.so (.slot 3))) (.sl (.slot 1) (.so (.bin .add (.slot 3) (.int 1))) .no)))
  .nil) .nil)
  (.cons (.ife (.cmp .eq (.slot 2) (.int 1)) (.cons (.ret (.bin .add (.bin .add (.sl (.slot 1) .no (.so (.slot 3))) (.slot 4)) (.sl (.slot 1) (.so (.slot 3)) .no)))
  .nil) .nil)
  (.cons (.ife (.cmp .eq (.slot 2) (.int 2)) (.cons (.ret (.bin .add (.bin .add (.sl (.slot 1) .no (.so (.slot 3))) (.slot 4)) (.sl (.slot 1) (.so (.bin .add (.slot 3) (.int 1))) .no)))
  .nil) .nil)
  (.cons (.ret (.slot 1))
  .nil)))))))
theorem co__law_mutated : cSs G SF ⟨["_law_pool", "_law_text", "_law_kind", "_law_at", "_law_sign"], defScope s__law_mutated, true, none, true⟩ (defBody s__law_mutated) = some b__law_mutated := by kernel_rfl
theorem sc__law_mutated : FnScope ["_law_pool", "_law_text", "_law_kind", "_law_at", "_law_sign"] ["_law_pool", "_law_text"] (defScope s__law_mutated) := ⟨rfl, rfl, rfl, by decide +kernel, rfl, by decide +kernel, by decide +kernel⟩
def d__law_mutated : Fd := ⟨2, 5, b__law_mutated⟩
abbrev s__law_outcome : Stmt := (PySem.Challenge.pw_barringrings_k77_mutated_state_texts.main.body.getD 14 (.Pass ⟨0, 0, 0, 0⟩))
def b__law_outcome : Ss := (.cons (.asg (.nm 1) (.lst .nil))
  (.cons (.try_ (.cons (.asg (.nm 1) (.lst (.cons (.str "parsed") (.cons (.call 182 (.cons (.slot 0) .nil)) .nil))))
  .nil) (.cons 22 (some 2) (.cons (.asg (.nm 1) (.lst (.cons (.xf 49) .nil)))
  .nil) .nil))
  (.cons (.ret (.slot 1))
  .nil)))
theorem co__law_outcome : cSs G SF ⟨["_law_text", "_law_result", "e"], defScope s__law_outcome, true, none, true⟩ (defBody s__law_outcome) = some b__law_outcome := by kernel_rfl
theorem sc__law_outcome : FnScope ["_law_text", "_law_result", "e"] ["_law_text"] (defScope s__law_outcome) := ⟨rfl, rfl, rfl, by decide +kernel, rfl, by decide +kernel, by decide +kernel⟩
def d__law_outcome : Fd := ⟨1, 3, b__law_outcome⟩
abbrev s_law : Stmt := (PySem.Challenge.pw_barringrings_k77_mutated_state_texts.main.body.getD 15 (.Pass ⟨0, 0, 0, 0⟩))
def b_law : Ss := (.cons (.asg (.nm 1) (.lst (.cons (.bif .list (.cons (.slot 0) .nil)) (.cons (.int 0) (.cons (.int 0) (.cons (.int 1) .nil))))))
  (.cons (.asg (.nm 2) (.lst .nil))
  (.cons (.for_ (.nm 3) (.rng1 (.bin .add (.int 1) (.call 1001 (.cons (.slot 1) (.cons (.int 9) .nil))))) (.cons (.exp (.bm .append (.slot 2) (.cons (.bif .str (.cons (.call 1001 (.cons (.slot 1) (.cons (.ix (.lst (.cons (.int 10) (.cons (.bin .pow (.int 10) (.int 30)) .nil))) (.call 1001 (.cons (.slot 1) (.cons (.int 2) .nil)))) .nil))) .nil)) .nil)))
  .nil))
  (.cons (.ife (.cmp .eq (.call 1001 (.cons (.slot 1) (.cons (.int 6) .nil))) (.int 0)) (.cons (.ixs (.slot 2) (.call 1001 (.cons (.slot 1) (.cons (.bif .len (.cons (.slot 2) .nil)) .nil))) (.str "*"))
  .nil) .nil)
  (.cons (.asg (.nm 4) (.bm .join (.str ".") (.cons (.slot 2) .nil)))
  (.cons (.for_ (.nm 3) (.rng1 (.call 1001 (.cons (.slot 1) (.cons (.int 3) .nil)))) (.cons (.asg (.nm 4) (.call 1005 (.cons (.slot 1) (.cons (.slot 4) .nil))))
  .nil))
  (.cons (.for_ (.nm 5) (.seq (.lst (.cons .non (.cons (.int 0) (.cons (.tup (.cons (.int 1) (.cons (.int 2) .nil))) (.cons (.lst (.cons (.str "0") .nil)) .nil)))))) (.cons (.ife (.not (.call 1002 (.cons (.call 1006 (.cons (.slot 5) .nil)) (.cons (.lst (.cons (.int 0) .nil)) .nil)))) (.cons (.ret (.bl false))
  .nil) .nil)
  .nil))
  (.cons (.for_ (.nm 6) (.seq (.lst (.cons (.slot 4) (.cons (.str "") (.cons (.bin .add (.slot 4) (.str "\n")) (.cons (.bin .add (.slot 4) (.str ".")) (.cons (.bin .add (.str " ") (.slot 4)) (.cons (.bin .mul (.str "9") (.int 100)) (.cons (.bin .add (.bin .add (.slot 4) (.str ".1")) (.bin .mul (.str "0") (.int 99))) (.cons (.bin .add (.str "+") (.slot 4)) (.cons (.bin .add (.slot 4) (.str ".1_0")) .nil))))))))))) (.cons (.asg (.nm 7) (.call 1004 (.cons (.slot 6) .nil)))
  (.cons (.asg (.nm 8) (.ite (.isN (.slot 7)) (.lst (.cons (.int 0) .nil)) (.lst (.cons (.str "parsed") (.cons (.slot 7) .nil)))))
  (.cons (.ife (.not (.call 1002 (.cons (.call 1006 (.cons (.slot 6) .nil)) (.cons (.slot 8) .nil)))) (.cons (.ret (.bl false))
  .nil) .nil)
  .nil))))
  (.cons (.ret (.bl true))
  .nil)))))))))
theorem co_law : cSs G SF ⟨["_law_script", "_law_pool", "_law_words", "_law_k", "_law_text", "_law_value", "_law_one", "_law_positions", "_law_expected"], defScope s_law, true, none, true⟩ (defBody s_law) = some b_law := by kernel_rfl
theorem sc_law : FnScope ["_law_script", "_law_pool", "_law_words", "_law_k", "_law_text", "_law_value", "_law_one", "_law_positions", "_law_expected"] ["_law_script"] (defScope s_law) := ⟨rfl, rfl, rfl, by decide +kernel, rfl, by decide +kernel, by decide +kernel⟩
def d_law : Fd := ⟨1, 9, b_law⟩
def tl : List (Nat × Fd) := [(178, d_parse_number), (180, d_parse_positions), (182, d_parse_state), (1001, d__law_draw), (1002, d__law_equal), (1003, d__law_parse_number), (1004, d__law_parse_positions), (1005, d__law_mutated), (1006, d__law_outcome), (1007, d_law)]
def tb : Tb := { fn := fun i => tl.lookup i, me := fun C m => ([] : List ((Nat × Nat) × Nat)).lookup (C, m), ini := fun C => ([] : List (Nat × Nat)).lookup C, xf := fun C => ([(26, []), (22, [49])] : List (Nat × List Nat)).lookup C, sub := fun E C => ([(26, 26), (22, 22), (22, 26)] : List (Nat × Nat)).contains (E, C) }
def NM : List Str := [Str.ofString "__eq__", Str.ofString "__init__", Str.ofString "__len__", Str.ofString "__repr__", Str.ofString "across", Str.ofString "add", Str.ofString "applied", Str.ofString "apply", Str.ofString "apply_all", Str.ofString "as_lists", Str.ofString "between", Str.ofString "branch", Str.ofString "cache", Str.ofString "certain", Str.ofString "change", Str.ofString "components", Str.ofString "contradictory", Str.ofString "copy", Str.ofString "count", Str.ofString "current", Str.ofString "depth", Str.ofString "distance", Str.ofString "distance_change", Str.ofString "distances", Str.ofString "editors", Str.ofString "entries", Str.ofString "excluded", Str.ofString "execute", Str.ofString "extend", Str.ofString "farthest", Str.ofString "farthest_cache", Str.ofString "first_move", Str.ofString "fork", Str.ofString "fork_distance", Str.ofString "fork_state", Str.ofString "fork_turn", Str.ofString "from_state", Str.ofString "goals", Str.ofString "history", Str.ofString "impossible", Str.ofString "index", Str.ofString "index_of", Str.ofString "indices", Str.ofString "insert_ring", Str.ofString "is_state", Str.ofString "known", Str.ofString "last_move", Str.ofString "legal_moves", Str.ofString "length", Str.ofString "line", Str.ofString "link", Str.ofString "locate", Str.ofString "lower_sizes", Str.ofString "middle", Str.ofString "move_at", Str.ofString "move_count", Str.ofString "moves", Str.ofString "name", Str.ofString "nearest", Str.ofString "nearest_cache", Str.ofString "of_pairs", Str.ofString "only_pattern", Str.ofString "open_pairs", Str.ofString "own_end", Str.ofString "own_puzzle", Str.ofString "own_start", Str.ofString "pairs", Str.ofString "part", Str.ofString "parts_between", Str.ofString "pattern_at", Str.ofString "pattern_count", Str.ofString "puzzle", Str.ofString "reach", Str.ofString "reduced", Str.ofString "remove_ring", Str.ofString "reverse", Str.ofString "ring", Str.ofString "ring_total", Str.ofString "rings", Str.ofString "rule", Str.ofString "rule_end", Str.ofString "rule_start", Str.ofString "rules", Str.ofString "segments", Str.ofString "set_pattern", Str.ofString "size", Str.ofString "sizes", Str.ofString "state", Str.ofString "state_after", Str.ofString "state_at", Str.ofString "state_count", Str.ofString "store", Str.ofString "stored_rings", Str.ofString "undo", Str.ofString "undo_count", Str.ofString "used_rings", Str.ofString "value", Str.ofString "visited", Str.ofString "write"]
abbrev s_ParseError___init__ : Stmt := (match PySem.Challenge.pw_barringrings_k77_mutated_state_texts.main.body.getD 2 (.Pass ⟨0, 0, 0, 0⟩) with | .ClassDef _ _ _ b _ _ _ _ _ _ _ => b.getD 0 (.Pass ⟨0, 0, 0, 0⟩) | s => s)
theorem sc_ParseError___init__ : FnScope ["self", "line"] ["self", "line"] (defScope s_ParseError___init__) := ⟨rfl, rfl, rfl, by decide +kernel, rfl, by decide +kernel, by decide +kernel⟩
theorem bo_ParseError___init__ : defBody s_ParseError___init__ = [.Expr (.Call (.Attribute (.Name "RingError" ⟨7, 8, 7, 17⟩) "__init__" ⟨7, 8, 7, 26⟩) [.Name "self" ⟨7, 27, 7, 31⟩, .Constant (.str "cannot parse the text") 0 ⟨7, 33, 7, 56⟩] [] ⟨7, 8, 7, 57⟩) ⟨7, 8, 7, 57⟩, .Assign [.Attribute (.Name "self" ⟨8, 8, 8, 12⟩) "line" ⟨8, 8, 8, 17⟩] (.Name "line" ⟨8, 20, 8, 24⟩) ⟨8, 8, 8, 24⟩] := by kernel_rfl
def sta (K : PySem.W.Frag) (fparse_number fparse_positions fparse_state f_law_draw f_law_equal f_law_parse_number f_law_parse_positions f_law_mutated f_law_outcome flaw cRingError cParseError : Addr) : Sta := { K := K, fA := fun n => (([(178, fparse_number), (180, fparse_positions), (182, fparse_state), (1001, f_law_draw), (1002, f_law_equal), (1003, f_law_parse_number), (1004, f_law_parse_positions), (1005, f_law_mutated), (1006, f_law_outcome), (1007, flaw)] : List (Nat × Addr)).lookup n).getD 0, cA := fun n => (([(26, cRingError), (22, cParseError)] : List (Nat × Addr)).lookup n).getD 0, fN := nmOf NM, cs := [], xcs := [26, 22], sx := fun _ _ => True, sxm := fun _ _ _ _ _ _ _ => trivial, xs := [] }
end MPk77
set_option Elab.async false
set_option linter.all false
set_option maxRecDepth 100000
set_option autoImplicit false
set_option maxHeartbeats 8000000
set_option exponentiation.threshold 10000
namespace MPk77
open PySem MP
def Pool (h : Hh) (p : Nat) : Prop := ∃ (q : Nat) (l : List Int) (i b m : Int), h[p]? = some (.lst [.ref q, .int i, .int b, .int m]) ∧ h[q]? = some (.lst (l.map D.int)) ∧ p ≠ q ∧ 0 ≤ i ∧ 0 ≤ m ∧ m < 2147483647 ∧ q = 0
theorem draw_spec {k : Nat} {h : Hh} {p : Nat} {c : Int} (hp : Pool h p) (hc : 0 < c) (hc2 : c < 2 ^ 200) :
    (cal tb (k + 1) 1001 [.ref p, .int c] h).wp (fun v h' => ∃ i, v = .int i ∧ 0 ≤ i ∧ i < c ∧ Pool h' p ∧ h'.length = h.length ∧ ∀ j, j ≠ p → h'[j]? = h[j]?) (fun _ _ => False) := by
  obtain ⟨q, l, i, b, m, e1, e2, hne, hi, hm, hm2, hq⟩ := hp
  have tail : ∀ (h1 : Hh) (i b m : Int) (x : Option D), h1.length = h.length → (∀ j, j ≠ p → h1[j]? = h[j]?) → h1[p]? = some (.lst [.ref q, .int i, .int b, .int m]) → 0 ≤ i → 0 ≤ m → m < 2147483647 →
      (exs (cal tb k) tb (Ss.cons (S.asg (Tg.nm 2) (E.bin Bop.mod ((E.slot 0).ix (E.int 2)) (E.slot 1)))
                    (Ss.cons (S.ixs (E.slot 0) (E.int 2) (E.bin Bop.fdiv ((E.slot 0).ix (E.int 2)) (E.slot 1)))
                      (Ss.cons (S.ret (E.slot 2)) Ss.nil)))
                  none [some (D.ref p), some (D.int c), none, x] h1).wp (calQ fun v h' => ∃ i, v = .int i ∧ 0 ≤ i ∧ i < c ∧ Pool h' p ∧ h'.length = h.length ∧ ∀ j, j ≠ p → h'[j]? = h[j]?) (fun _ _ _ => False) := by
    intro h1 i b m x hl hj e3 hi hm hm2
    have g0 := ixD_ref e3
    have lg : c.natAbs.log2 < 9000 := by
      by_cases hc0 : c.natAbs = 0
      · rw [hc0]; decide
      · rw [Nat.log2_lt hc0]
        have : c.natAbs < 2 ^ 200 := by omega
        exact Nat.lt_of_lt_of_le this (Nat.pow_le_pow_right (by decide) (by decide))
    refine sp_cons ?_
    simp only [Bool.and_eq_true, Bool.or_eq_true, and_true, true_and, or_true, true_or, and_self, Int.reduceLE, Int.reduceLT, Int.reduceAbs, Nat.reducePow, Int.reduceToNat, Int.reducePow, Option.map_some, Option.map_none, beq_iff_eq, decide_eq_true_eq, bind_ok, toS_ok, lift_some, wp_ok, wp_bind, wp_lift_some, wp_ite, sp_toS, sp_ok, sp_ite, seqQ_nx, seqQ_rt, seqQ_bk, seqQ_ct, calQ_nx, calQ_rt, exs_nil, ex_asg, ex_fst, ex_ixs, ex_exp, ex_ret, ex_retn, ex_ife, ex_rai, ex_pass, ex_brk, ex_cont, ev_slot, ev_int, ev_str, ev_bl, ev_non, ev_con, ev_bin, ev_neg, ev_not, ev_and, ev_or, ev_isN, ev_notN, ev_cmp, ev_chn, ev_ite, ev_tup, ev_lst, ev_ix, ev_sl, ev_call, ev_mk, ev_meth, ev_bif, ev_bm, ev_isi, ev_fld, ev_xf, evT_bif, evT_slot, evT_call, evT_meth, evT_isi, evT_ix, evT_fld, evT_bl, tru_bl, evT_not, evT_and, evT_or, evT_cmp, evT_chn, evT_isN, evT_notN, evC_no, evC_so, evo_no, evo_so, evs_nil, evs_cons, evIt_seq, evIt_rng1, evIt_rng2, evIt_zip, eqD_int, at0, at1, at2, at3, addD_int, if_tt, if_ff, tysD, ty_int_int, ty_int_bool, ty_int_str, ty_int_tuple, ty_int_list, ty_bl_int, ty_bl_bool, ty_bl_str, ty_bl_tuple, ty_bl_list, ty_str_int, ty_str_bool, ty_str_str, ty_str_tuple, ty_str_list, ty_tup_int, ty_tup_bool, ty_tup_str, ty_tup_tuple, ty_tup_list, ty_non_int, ty_non_bool, ty_non_str, ty_non_tuple, ty_non_list, ty_frz_int, ty_frz_bool, ty_frz_str, ty_frz_tuple, ty_frz_list, tq_int, tq_bool, tq_str, tq_tuple, tq_list, slotK, negK, isNK, notNK, isN_non, isN_int, isN_bl, isN_str, isN_tup, isN_ref, andK, orK, truK, blK, intK, binD, intD, cmpD, icmpD, bifD, asgK, bindTg, bindTgs, tupK, lstK, isiK, bmK, fldK, startE, List.map_cons, List.map_nil, List.length_cons, List.length_nil, List.replicate_succ, List.replicate_zero, List.cons_append, List.nil_append, List.getElem?_cons_zero, List.getElem?_cons_succ, List.getElem?_nil, List.set_cons_zero, List.set_cons_succ, Nat.reduceSub, Nat.reduceAdd, Nat.reduceLT, if_true, if_false, reduceIte, Bool.not_true, Bool.not_false, reduceCtorEq, g0, hc, lg, decide_true]
    refine sp_cons ?_
    simp only [Bool.and_eq_true, Bool.or_eq_true, and_true, true_and, or_true, true_or, and_self, Int.reduceLE, Int.reduceLT, Int.reduceAbs, Nat.reducePow, Int.reduceToNat, Int.reducePow, Option.map_some, Option.map_none, beq_iff_eq, decide_eq_true_eq, bind_ok, toS_ok, lift_some, wp_ok, wp_bind, wp_lift_some, wp_ite, sp_toS, sp_ok, sp_ite, seqQ_nx, seqQ_rt, seqQ_bk, seqQ_ct, calQ_nx, calQ_rt, exs_nil, ex_asg, ex_fst, ex_ixs, ex_exp, ex_ret, ex_retn, ex_ife, ex_rai, ex_pass, ex_brk, ex_cont, ev_slot, ev_int, ev_str, ev_bl, ev_non, ev_con, ev_bin, ev_neg, ev_not, ev_and, ev_or, ev_isN, ev_notN, ev_cmp, ev_chn, ev_ite, ev_tup, ev_lst, ev_ix, ev_sl, ev_call, ev_mk, ev_meth, ev_bif, ev_bm, ev_isi, ev_fld, ev_xf, evT_bif, evT_slot, evT_call, evT_meth, evT_isi, evT_ix, evT_fld, evT_bl, tru_bl, evT_not, evT_and, evT_or, evT_cmp, evT_chn, evT_isN, evT_notN, evC_no, evC_so, evo_no, evo_so, evs_nil, evs_cons, evIt_seq, evIt_rng1, evIt_rng2, evIt_zip, eqD_int, at0, at1, at2, at3, addD_int, if_tt, if_ff, tysD, ty_int_int, ty_int_bool, ty_int_str, ty_int_tuple, ty_int_list, ty_bl_int, ty_bl_bool, ty_bl_str, ty_bl_tuple, ty_bl_list, ty_str_int, ty_str_bool, ty_str_str, ty_str_tuple, ty_str_list, ty_tup_int, ty_tup_bool, ty_tup_str, ty_tup_tuple, ty_tup_list, ty_non_int, ty_non_bool, ty_non_str, ty_non_tuple, ty_non_list, ty_frz_int, ty_frz_bool, ty_frz_str, ty_frz_tuple, ty_frz_list, tq_int, tq_bool, tq_str, tq_tuple, tq_list, slotK, negK, isNK, notNK, isN_non, isN_int, isN_bl, isN_str, isN_tup, isN_ref, andK, orK, truK, blK, intK, binD, intD, cmpD, icmpD, bifD, asgK, bindTg, bindTgs, tupK, lstK, isiK, bmK, fldK, startE, List.map_cons, List.map_nil, List.length_cons, List.length_nil, List.replicate_succ, List.replicate_zero, List.cons_append, List.nil_append, List.getElem?_cons_zero, List.getElem?_cons_succ, List.getElem?_nil, List.set_cons_zero, List.set_cons_succ, Nat.reduceSub, Nat.reduceAdd, Nat.reduceLT, if_true, if_false, reduceIte, Bool.not_true, Bool.not_false, reduceCtorEq, g0, hc, lg, decide_true, Bool.and_self]
    rw [ixs_ref (j := 2) e3 rfl, sp_ok, seqQ_nx]
    refine sp_cons ?_
    simp only [Bool.and_eq_true, Bool.or_eq_true, and_true, true_and, or_true, true_or, and_self, Int.reduceLE, Int.reduceLT, Int.reduceAbs, Nat.reducePow, Int.reduceToNat, Int.reducePow, Option.map_some, Option.map_none, beq_iff_eq, decide_eq_true_eq, bind_ok, toS_ok, lift_some, wp_ok, wp_bind, wp_lift_some, wp_ite, sp_toS, sp_ok, sp_ite, seqQ_nx, seqQ_rt, seqQ_bk, seqQ_ct, calQ_nx, calQ_rt, exs_nil, ex_asg, ex_fst, ex_ixs, ex_exp, ex_ret, ex_retn, ex_ife, ex_rai, ex_pass, ex_brk, ex_cont, ev_slot, ev_int, ev_str, ev_bl, ev_non, ev_con, ev_bin, ev_neg, ev_not, ev_and, ev_or, ev_isN, ev_notN, ev_cmp, ev_chn, ev_ite, ev_tup, ev_lst, ev_ix, ev_sl, ev_call, ev_mk, ev_meth, ev_bif, ev_bm, ev_isi, ev_fld, ev_xf, evT_bif, evT_slot, evT_call, evT_meth, evT_isi, evT_ix, evT_fld, evT_bl, tru_bl, evT_not, evT_and, evT_or, evT_cmp, evT_chn, evT_isN, evT_notN, evC_no, evC_so, evo_no, evo_so, evs_nil, evs_cons, evIt_seq, evIt_rng1, evIt_rng2, evIt_zip, eqD_int, at0, at1, at2, at3, addD_int, if_tt, if_ff, tysD, ty_int_int, ty_int_bool, ty_int_str, ty_int_tuple, ty_int_list, ty_bl_int, ty_bl_bool, ty_bl_str, ty_bl_tuple, ty_bl_list, ty_str_int, ty_str_bool, ty_str_str, ty_str_tuple, ty_str_list, ty_tup_int, ty_tup_bool, ty_tup_str, ty_tup_tuple, ty_tup_list, ty_non_int, ty_non_bool, ty_non_str, ty_non_tuple, ty_non_list, ty_frz_int, ty_frz_bool, ty_frz_str, ty_frz_tuple, ty_frz_list, tq_int, tq_bool, tq_str, tq_tuple, tq_list, slotK, negK, isNK, notNK, isN_non, isN_int, isN_bl, isN_str, isN_tup, isN_ref, andK, orK, truK, blK, intK, binD, intD, cmpD, icmpD, bifD, asgK, bindTg, bindTgs, tupK, lstK, isiK, bmK, fldK, startE, List.map_cons, List.map_nil, List.length_cons, List.length_nil, List.replicate_succ, List.replicate_zero, List.cons_append, List.nil_append, List.getElem?_cons_zero, List.getElem?_cons_succ, List.getElem?_nil, List.set_cons_zero, List.set_cons_succ, Nat.reduceSub, Nat.reduceAdd, Nat.reduceLT, if_true, if_false, reduceIte, Bool.not_true, Bool.not_false, reduceCtorEq]
    refine ⟨b % c, rfl, Int.emod_nonneg _ (by omega), Int.emod_lt_of_pos _ hc, ⟨q, l, i, b / c, m, set_get e3, ?_, hne, hi, hm, hm2, hq⟩, by simp [hl], fun j hne2 => ?_⟩
    · rw [List.getElem?_set_ne hne, hj q (Ne.symm hne)]; exact e2
    · rw [List.getElem?_set_ne (Ne.symm hne2)]; exact hj j hne2
  have mid : ∀ x : Int, (exs (cal tb k) tb
          (Ss.cons (S.ixs (E.slot 0) (E.int 1) (E.bin Bop.add ((E.slot 0).ix (E.int 1)) (E.int 1)))
            (Ss.cons
              (S.ife (E.cmp Cop.lt (E.slot 3) (E.bin Bop.pow (E.int 10) (E.int 18)))
                (Ss.cons
                  (S.ixs (E.slot 0) (E.int 3)
                    (E.bin Bop.mod
                      (E.bin Bop.add
                        (E.bin Bop.add (E.bin Bop.mul ((E.slot 0).ix (E.int 3)) (E.int 48271))
                          (E.bin Bop.mod (E.slot 3) (E.int 2147483629)))
                        ((E.slot 0).ix (E.int 1)))
                      (E.int 2147483647)))
                  (Ss.cons
                    (S.ret
                      (E.bin Bop.mod
                        (E.bin Bop.fdiv
                          (E.bin Bop.mod (E.bin Bop.mul ((E.slot 0).ix (E.int 3)) ((E.slot 0).ix (E.int 3)))
                            (E.int 2147483629))
                          (E.int 7))
                        (E.slot 1)))
                    Ss.nil))
                Ss.nil)
              (Ss.cons (S.ixs (E.slot 0) (E.int 2) (E.slot 3)) Ss.nil)))
          none [some (D.ref p), some (D.int c), none, some (D.int x)] h).wp
      (seqQ
        (exs (cal tb k) tb
          (Ss.cons (S.asg (Tg.nm 2) (E.bin Bop.mod ((E.slot 0).ix (E.int 2)) (E.slot 1)))
            (Ss.cons (S.ixs (E.slot 0) (E.int 2) (E.bin Bop.fdiv ((E.slot 0).ix (E.int 2)) (E.slot 1)))
              (Ss.cons (S.ret (E.slot 2)) Ss.nil)))
          none)
        (calQ fun v h' =>
          ∃ i,
            v = D.int i ∧
              0 ≤ i ∧ i < c ∧ Pool h' p ∧ List.length h' = List.length h ∧ ∀ (j : Nat), j ≠ p → h'[j]? = h[j]?)
        fun e x h => False)
      fun e x h => False := by
    intro x
    refine sp_cons ?_
    simp only [Bool.and_eq_true, Bool.or_eq_true, and_true, true_and, or_true, true_or, and_self, Int.reduceLE, Int.reduceLT, Int.reduceAbs, Nat.reducePow, Int.reduceToNat, Int.reducePow, Option.map_some, Option.map_none, beq_iff_eq, decide_eq_true_eq, bind_ok, toS_ok, lift_some, wp_ok, wp_bind, wp_lift_some, wp_ite, sp_toS, sp_ok, sp_ite, seqQ_nx, seqQ_rt, seqQ_bk, seqQ_ct, calQ_nx, calQ_rt, exs_nil, ex_asg, ex_fst, ex_ixs, ex_exp, ex_ret, ex_retn, ex_ife, ex_rai, ex_pass, ex_brk, ex_cont, ev_slot, ev_int, ev_str, ev_bl, ev_non, ev_con, ev_bin, ev_neg, ev_not, ev_and, ev_or, ev_isN, ev_notN, ev_cmp, ev_chn, ev_ite, ev_tup, ev_lst, ev_ix, ev_sl, ev_call, ev_mk, ev_meth, ev_bif, ev_bm, ev_isi, ev_fld, ev_xf, evT_bif, evT_slot, evT_call, evT_meth, evT_isi, evT_ix, evT_fld, evT_bl, tru_bl, evT_not, evT_and, evT_or, evT_cmp, evT_chn, evT_isN, evT_notN, evC_no, evC_so, evo_no, evo_so, evs_nil, evs_cons, evIt_seq, evIt_rng1, evIt_rng2, evIt_zip, eqD_int, at0, at1, at2, at3, addD_int, if_tt, if_ff, tysD, ty_int_int, ty_int_bool, ty_int_str, ty_int_tuple, ty_int_list, ty_bl_int, ty_bl_bool, ty_bl_str, ty_bl_tuple, ty_bl_list, ty_str_int, ty_str_bool, ty_str_str, ty_str_tuple, ty_str_list, ty_tup_int, ty_tup_bool, ty_tup_str, ty_tup_tuple, ty_tup_list, ty_non_int, ty_non_bool, ty_non_str, ty_non_tuple, ty_non_list, ty_frz_int, ty_frz_bool, ty_frz_str, ty_frz_tuple, ty_frz_list, tq_int, tq_bool, tq_str, tq_tuple, tq_list, slotK, negK, isNK, notNK, isN_non, isN_int, isN_bl, isN_str, isN_tup, isN_ref, andK, orK, truK, blK, intK, binD, intD, cmpD, icmpD, bifD, asgK, bindTg, bindTgs, tupK, lstK, isiK, bmK, fldK, startE, List.map_cons, List.map_nil, List.length_cons, List.length_nil, List.replicate_succ, List.replicate_zero, List.cons_append, List.nil_append, List.getElem?_cons_zero, List.getElem?_cons_succ, List.getElem?_nil, List.set_cons_zero, List.set_cons_succ, Nat.reduceSub, Nat.reduceAdd, Nat.reduceLT, if_true, if_false, reduceIte, Bool.not_true, Bool.not_false, reduceCtorEq, ixD_ref e1]
    rw [ixs_ref (j := 1) e1 rfl, sp_ok, seqQ_nx]
    have e3 : (h.set p (.lst ([D.ref q, D.int i, D.int b, D.int m].set 1 (.int (i + 1)))))[p]? = some (.lst [D.ref q, D.int (i + 1), D.int b, D.int m]) := set_get e1
    have hj : ∀ j, j ≠ p → (h.set p (.lst ([D.ref q, D.int i, D.int b, D.int m].set 1 (.int (i + 1)))))[j]? = h[j]? := fun j hne2 => List.getElem?_set_ne (Ne.symm hne2)
    have hl : (h.set p (.lst ([D.ref q, D.int i, D.int b, D.int m].set 1 (.int (i + 1))))).length = h.length := by simp
    generalize h.set p (.lst ([D.ref q, D.int i, D.int b, D.int m].set 1 (.int (i + 1)))) = h1 at e3 hj hl
    refine sp_cons ?_
    simp only [Bool.and_eq_true, Bool.or_eq_true, and_true, true_and, or_true, true_or, and_self, Int.reduceLE, Int.reduceLT, Int.reduceAbs, Nat.reducePow, Int.reduceToNat, Int.reducePow, Option.map_some, Option.map_none, beq_iff_eq, decide_eq_true_eq, bind_ok, toS_ok, lift_some, wp_ok, wp_bind, wp_lift_some, wp_ite, sp_toS, sp_ok, sp_ite, seqQ_nx, seqQ_rt, seqQ_bk, seqQ_ct, calQ_nx, calQ_rt, exs_nil, ex_asg, ex_fst, ex_ixs, ex_exp, ex_ret, ex_retn, ex_ife, ex_rai, ex_pass, ex_brk, ex_cont, ev_slot, ev_int, ev_str, ev_bl, ev_non, ev_con, ev_bin, ev_neg, ev_not, ev_and, ev_or, ev_isN, ev_notN, ev_cmp, ev_chn, ev_ite, ev_tup, ev_lst, ev_ix, ev_sl, ev_call, ev_mk, ev_meth, ev_bif, ev_bm, ev_isi, ev_fld, ev_xf, evT_bif, evT_slot, evT_call, evT_meth, evT_isi, evT_ix, evT_fld, evT_bl, tru_bl, evT_not, evT_and, evT_or, evT_cmp, evT_chn, evT_isN, evT_notN, evC_no, evC_so, evo_no, evo_so, evs_nil, evs_cons, evIt_seq, evIt_rng1, evIt_rng2, evIt_zip, eqD_int, at0, at1, at2, at3, addD_int, if_tt, if_ff, tysD, ty_int_int, ty_int_bool, ty_int_str, ty_int_tuple, ty_int_list, ty_bl_int, ty_bl_bool, ty_bl_str, ty_bl_tuple, ty_bl_list, ty_str_int, ty_str_bool, ty_str_str, ty_str_tuple, ty_str_list, ty_tup_int, ty_tup_bool, ty_tup_str, ty_tup_tuple, ty_tup_list, ty_non_int, ty_non_bool, ty_non_str, ty_non_tuple, ty_non_list, ty_frz_int, ty_frz_bool, ty_frz_str, ty_frz_tuple, ty_frz_list, tq_int, tq_bool, tq_str, tq_tuple, tq_list, slotK, negK, isNK, notNK, isN_non, isN_int, isN_bl, isN_str, isN_tup, isN_ref, andK, orK, truK, blK, intK, binD, intD, cmpD, icmpD, bifD, asgK, bindTg, bindTgs, tupK, lstK, isiK, bmK, fldK, startE, List.map_cons, List.map_nil, List.length_cons, List.length_nil, List.replicate_succ, List.replicate_zero, List.cons_append, List.nil_append, List.getElem?_cons_zero, List.getElem?_cons_succ, List.getElem?_nil, List.set_cons_zero, List.set_cons_succ, Nat.reduceSub, Nat.reduceAdd, Nat.reduceLT, if_true, if_false, reduceIte, Bool.not_true, Bool.not_false, reduceCtorEq]
    split
    · refine sp_cons ?_
      simp only [Bool.and_eq_true, Bool.or_eq_true, and_true, true_and, or_true, true_or, and_self, Int.reduceLE, Int.reduceLT, Int.reduceAbs, Nat.reducePow, Int.reduceToNat, Int.reducePow, Option.map_some, Option.map_none, beq_iff_eq, decide_eq_true_eq, bind_ok, toS_ok, lift_some, wp_ok, wp_bind, wp_lift_some, wp_ite, sp_toS, sp_ok, sp_ite, seqQ_nx, seqQ_rt, seqQ_bk, seqQ_ct, calQ_nx, calQ_rt, exs_nil, ex_asg, ex_fst, ex_ixs, ex_exp, ex_ret, ex_retn, ex_ife, ex_rai, ex_pass, ex_brk, ex_cont, ev_slot, ev_int, ev_str, ev_bl, ev_non, ev_con, ev_bin, ev_neg, ev_not, ev_and, ev_or, ev_isN, ev_notN, ev_cmp, ev_chn, ev_ite, ev_tup, ev_lst, ev_ix, ev_sl, ev_call, ev_mk, ev_meth, ev_bif, ev_bm, ev_isi, ev_fld, ev_xf, evT_bif, evT_slot, evT_call, evT_meth, evT_isi, evT_ix, evT_fld, evT_bl, tru_bl, evT_not, evT_and, evT_or, evT_cmp, evT_chn, evT_isN, evT_notN, evC_no, evC_so, evo_no, evo_so, evs_nil, evs_cons, evIt_seq, evIt_rng1, evIt_rng2, evIt_zip, eqD_int, at0, at1, at2, at3, addD_int, if_tt, if_ff, tysD, ty_int_int, ty_int_bool, ty_int_str, ty_int_tuple, ty_int_list, ty_bl_int, ty_bl_bool, ty_bl_str, ty_bl_tuple, ty_bl_list, ty_str_int, ty_str_bool, ty_str_str, ty_str_tuple, ty_str_list, ty_tup_int, ty_tup_bool, ty_tup_str, ty_tup_tuple, ty_tup_list, ty_non_int, ty_non_bool, ty_non_str, ty_non_tuple, ty_non_list, ty_frz_int, ty_frz_bool, ty_frz_str, ty_frz_tuple, ty_frz_list, tq_int, tq_bool, tq_str, tq_tuple, tq_list, slotK, negK, isNK, notNK, isN_non, isN_int, isN_bl, isN_str, isN_tup, isN_ref, andK, orK, truK, blK, intK, binD, intD, cmpD, icmpD, bifD, asgK, bindTg, bindTgs, tupK, lstK, isiK, bmK, fldK, startE, List.map_cons, List.map_nil, List.length_cons, List.length_nil, List.replicate_succ, List.replicate_zero, List.cons_append, List.nil_append, List.getElem?_cons_zero, List.getElem?_cons_succ, List.getElem?_nil, List.set_cons_zero, List.set_cons_succ, Nat.reduceSub, Nat.reduceAdd, Nat.reduceLT, if_true, if_false, reduceIte, Bool.not_true, Bool.not_false, reduceCtorEq, ixD_ref e3, mulD_r]
      rw [ixs_ref (j := 3) e3 rfl, sp_ok, seqQ_nx]
      have e4 : (h1.set p (.lst ([D.ref q, D.int (i + 1), D.int b, D.int m].set 3 (.int ((m * 48271 + x % 2147483629 + (i + 1)) % 2147483647)))))[p]? = some (.lst [D.ref q, D.int (i + 1), D.int b, D.int ((m * 48271 + x % 2147483629 + (i + 1)) % 2147483647)]) := set_get e3
      have z1 : 0 ≤ (m * 48271 + x % 2147483629 + (i + 1)) % 2147483647 := Int.emod_nonneg _ (by decide)
      have z2 : (m * 48271 + x % 2147483629 + (i + 1)) % 2147483647 < 2147483647 := Int.emod_lt_of_pos _ (by decide)
      have hl4 : (h1.set p (.lst ([D.ref q, D.int (i + 1), D.int b, D.int m].set 3 (.int ((m * 48271 + x % 2147483629 + (i + 1)) % 2147483647))))).length = h.length := by simp [hl]
      have hj4 : ∀ j, j ≠ p → (h1.set p (.lst ([D.ref q, D.int (i + 1), D.int b, D.int m].set 3 (.int ((m * 48271 + x % 2147483629 + (i + 1)) % 2147483647)))))[j]? = h[j]? := fun j hne2 => by rw [List.getElem?_set_ne (Ne.symm hne2)]; exact hj j hne2
      generalize h1.set p (.lst ([D.ref q, D.int (i + 1), D.int b, D.int m].set 3 (.int ((m * 48271 + x % 2147483629 + (i + 1)) % 2147483647)))) = h2 at e4 hl4 hj4
      generalize (m * 48271 + x % 2147483629 + (i + 1)) % 2147483647 = m1 at e4 z1 z2
      have hm1 : m1.natAbs < 2 ^ 64 := by omega
      have l7 : Nat.log2 7 < 9000 := by decide
      refine sp_cons ?_
      simp only [Bool.and_eq_true, Bool.or_eq_true, and_true, true_and, or_true, true_or, and_self, Int.reduceLE, Int.reduceLT, Int.reduceAbs, Nat.reducePow, Int.reduceToNat, Int.reducePow, Option.map_some, Option.map_none, beq_iff_eq, decide_eq_true_eq, bind_ok, toS_ok, lift_some, wp_ok, wp_bind, wp_lift_some, wp_ite, sp_toS, sp_ok, sp_ite, seqQ_nx, seqQ_rt, seqQ_bk, seqQ_ct, calQ_nx, calQ_rt, exs_nil, ex_asg, ex_fst, ex_ixs, ex_exp, ex_ret, ex_retn, ex_ife, ex_rai, ex_pass, ex_brk, ex_cont, ev_slot, ev_int, ev_str, ev_bl, ev_non, ev_con, ev_bin, ev_neg, ev_not, ev_and, ev_or, ev_isN, ev_notN, ev_cmp, ev_chn, ev_ite, ev_tup, ev_lst, ev_ix, ev_sl, ev_call, ev_mk, ev_meth, ev_bif, ev_bm, ev_isi, ev_fld, ev_xf, evT_bif, evT_slot, evT_call, evT_meth, evT_isi, evT_ix, evT_fld, evT_bl, tru_bl, evT_not, evT_and, evT_or, evT_cmp, evT_chn, evT_isN, evT_notN, evC_no, evC_so, evo_no, evo_so, evs_nil, evs_cons, evIt_seq, evIt_rng1, evIt_rng2, evIt_zip, eqD_int, at0, at1, at2, at3, addD_int, if_tt, if_ff, tysD, ty_int_int, ty_int_bool, ty_int_str, ty_int_tuple, ty_int_list, ty_bl_int, ty_bl_bool, ty_bl_str, ty_bl_tuple, ty_bl_list, ty_str_int, ty_str_bool, ty_str_str, ty_str_tuple, ty_str_list, ty_tup_int, ty_tup_bool, ty_tup_str, ty_tup_tuple, ty_tup_list, ty_non_int, ty_non_bool, ty_non_str, ty_non_tuple, ty_non_list, ty_frz_int, ty_frz_bool, ty_frz_str, ty_frz_tuple, ty_frz_list, tq_int, tq_bool, tq_str, tq_tuple, tq_list, slotK, negK, isNK, notNK, isN_non, isN_int, isN_bl, isN_str, isN_tup, isN_ref, andK, orK, truK, blK, intK, binD, intD, cmpD, icmpD, bifD, asgK, bindTg, bindTgs, tupK, lstK, isiK, bmK, fldK, startE, List.map_cons, List.map_nil, List.length_cons, List.length_nil, List.replicate_succ, List.replicate_zero, List.cons_append, List.nil_append, List.getElem?_cons_zero, List.getElem?_cons_succ, List.getElem?_nil, List.set_cons_zero, List.set_cons_succ, Nat.reduceSub, Nat.reduceAdd, Nat.reduceLT, if_true, if_false, reduceIte, Bool.not_true, Bool.not_false, reduceCtorEq, ixD_ref e4, mulD_r hm1, hc, decide_true, l7]
      exact ⟨_, rfl, Int.emod_nonneg _ (by omega), Int.emod_lt_of_pos _ hc, ⟨q, l, i + 1, b, m1, e4, by rw [hj4 q (Ne.symm hne)]; exact e2, hne, by omega, z1, z2, hq⟩, hl4, hj4⟩
    · refine sp_cons ?_
      simp only [Bool.and_eq_true, Bool.or_eq_true, and_true, true_and, or_true, true_or, and_self, Int.reduceLE, Int.reduceLT, Int.reduceAbs, Nat.reducePow, Int.reduceToNat, Int.reducePow, Option.map_some, Option.map_none, beq_iff_eq, decide_eq_true_eq, bind_ok, toS_ok, lift_some, wp_ok, wp_bind, wp_lift_some, wp_ite, sp_toS, sp_ok, sp_ite, seqQ_nx, seqQ_rt, seqQ_bk, seqQ_ct, calQ_nx, calQ_rt, exs_nil, ex_asg, ex_fst, ex_ixs, ex_exp, ex_ret, ex_retn, ex_ife, ex_rai, ex_pass, ex_brk, ex_cont, ev_slot, ev_int, ev_str, ev_bl, ev_non, ev_con, ev_bin, ev_neg, ev_not, ev_and, ev_or, ev_isN, ev_notN, ev_cmp, ev_chn, ev_ite, ev_tup, ev_lst, ev_ix, ev_sl, ev_call, ev_mk, ev_meth, ev_bif, ev_bm, ev_isi, ev_fld, ev_xf, evT_bif, evT_slot, evT_call, evT_meth, evT_isi, evT_ix, evT_fld, evT_bl, tru_bl, evT_not, evT_and, evT_or, evT_cmp, evT_chn, evT_isN, evT_notN, evC_no, evC_so, evo_no, evo_so, evs_nil, evs_cons, evIt_seq, evIt_rng1, evIt_rng2, evIt_zip, eqD_int, at0, at1, at2, at3, addD_int, if_tt, if_ff, tysD, ty_int_int, ty_int_bool, ty_int_str, ty_int_tuple, ty_int_list, ty_bl_int, ty_bl_bool, ty_bl_str, ty_bl_tuple, ty_bl_list, ty_str_int, ty_str_bool, ty_str_str, ty_str_tuple, ty_str_list, ty_tup_int, ty_tup_bool, ty_tup_str, ty_tup_tuple, ty_tup_list, ty_non_int, ty_non_bool, ty_non_str, ty_non_tuple, ty_non_list, ty_frz_int, ty_frz_bool, ty_frz_str, ty_frz_tuple, ty_frz_list, tq_int, tq_bool, tq_str, tq_tuple, tq_list, slotK, negK, isNK, notNK, isN_non, isN_int, isN_bl, isN_str, isN_tup, isN_ref, andK, orK, truK, blK, intK, binD, intD, cmpD, icmpD, bifD, asgK, bindTg, bindTgs, tupK, lstK, isiK, bmK, fldK, startE, List.map_cons, List.map_nil, List.length_cons, List.length_nil, List.replicate_succ, List.replicate_zero, List.cons_append, List.nil_append, List.getElem?_cons_zero, List.getElem?_cons_succ, List.getElem?_nil, List.set_cons_zero, List.set_cons_succ, Nat.reduceSub, Nat.reduceAdd, Nat.reduceLT, if_true, if_false, reduceIte, Bool.not_true, Bool.not_false, reduceCtorEq, ixD_ref e3]
      rw [ixs_ref (j := 2) e3 rfl, sp_ok, seqQ_nx]
      simp only [Bool.and_eq_true, Bool.or_eq_true, and_true, true_and, or_true, true_or, and_self, Int.reduceLE, Int.reduceLT, Int.reduceAbs, Nat.reducePow, Int.reduceToNat, Int.reducePow, Option.map_some, Option.map_none, beq_iff_eq, decide_eq_true_eq, bind_ok, toS_ok, lift_some, wp_ok, wp_bind, wp_lift_some, wp_ite, sp_toS, sp_ok, sp_ite, seqQ_nx, seqQ_rt, seqQ_bk, seqQ_ct, calQ_nx, calQ_rt, exs_nil, ex_asg, ex_fst, ex_ixs, ex_exp, ex_ret, ex_retn, ex_ife, ex_rai, ex_pass, ex_brk, ex_cont, ev_slot, ev_int, ev_str, ev_bl, ev_non, ev_con, ev_bin, ev_neg, ev_not, ev_and, ev_or, ev_isN, ev_notN, ev_cmp, ev_chn, ev_ite, ev_tup, ev_lst, ev_ix, ev_sl, ev_call, ev_mk, ev_meth, ev_bif, ev_bm, ev_isi, ev_fld, ev_xf, evT_bif, evT_slot, evT_call, evT_meth, evT_isi, evT_ix, evT_fld, evT_bl, tru_bl, evT_not, evT_and, evT_or, evT_cmp, evT_chn, evT_isN, evT_notN, evC_no, evC_so, evo_no, evo_so, evs_nil, evs_cons, evIt_seq, evIt_rng1, evIt_rng2, evIt_zip, eqD_int, at0, at1, at2, at3, addD_int, if_tt, if_ff, tysD, ty_int_int, ty_int_bool, ty_int_str, ty_int_tuple, ty_int_list, ty_bl_int, ty_bl_bool, ty_bl_str, ty_bl_tuple, ty_bl_list, ty_str_int, ty_str_bool, ty_str_str, ty_str_tuple, ty_str_list, ty_tup_int, ty_tup_bool, ty_tup_str, ty_tup_tuple, ty_tup_list, ty_non_int, ty_non_bool, ty_non_str, ty_non_tuple, ty_non_list, ty_frz_int, ty_frz_bool, ty_frz_str, ty_frz_tuple, ty_frz_list, tq_int, tq_bool, tq_str, tq_tuple, tq_list, slotK, negK, isNK, notNK, isN_non, isN_int, isN_bl, isN_str, isN_tup, isN_ref, andK, orK, truK, blK, intK, binD, intD, cmpD, icmpD, bifD, asgK, bindTg, bindTgs, tupK, lstK, isiK, bmK, fldK, startE, List.map_cons, List.map_nil, List.length_cons, List.length_nil, List.replicate_succ, List.replicate_zero, List.cons_append, List.nil_append, List.getElem?_cons_zero, List.getElem?_cons_succ, List.getElem?_nil, List.set_cons_zero, List.set_cons_succ, Nat.reduceSub, Nat.reduceAdd, Nat.reduceLT, if_true, if_false, reduceIte, Bool.not_true, Bool.not_false, reduceCtorEq]
      refine tail _ (i + 1) x m _ (by simp [hl]) (fun j hne2 => ?_) (set_get e3) (by omega) hm hm2
      rw [List.getElem?_set_ne (Ne.symm hne2)]; exact hj j hne2
  refine cal_wp (fd := d__law_draw) rfl rfl ?_
  unfold d__law_draw b__law_draw
  refine sp_cons ?_
  simp only [Bool.and_eq_true, Bool.or_eq_true, and_true, true_and, or_true, true_or, and_self, Int.reduceLE, Int.reduceLT, Int.reduceAbs, Nat.reducePow, Int.reduceToNat, Int.reducePow, Option.map_some, Option.map_none, beq_iff_eq, decide_eq_true_eq, bind_ok, toS_ok, lift_some, wp_ok, wp_bind, wp_lift_some, wp_ite, sp_toS, sp_ok, sp_ite, seqQ_nx, seqQ_rt, seqQ_bk, seqQ_ct, calQ_nx, calQ_rt, exs_nil, ex_asg, ex_fst, ex_ixs, ex_exp, ex_ret, ex_retn, ex_ife, ex_rai, ex_pass, ex_brk, ex_cont, ev_slot, ev_int, ev_str, ev_bl, ev_non, ev_con, ev_bin, ev_neg, ev_not, ev_and, ev_or, ev_isN, ev_notN, ev_cmp, ev_chn, ev_ite, ev_tup, ev_lst, ev_ix, ev_sl, ev_call, ev_mk, ev_meth, ev_bif, ev_bm, ev_isi, ev_fld, ev_xf, evT_bif, evT_slot, evT_call, evT_meth, evT_isi, evT_ix, evT_fld, evT_bl, tru_bl, evT_not, evT_and, evT_or, evT_cmp, evT_chn, evT_isN, evT_notN, evC_no, evC_so, evo_no, evo_so, evs_nil, evs_cons, evIt_seq, evIt_rng1, evIt_rng2, evIt_zip, eqD_int, at0, at1, at2, at3, addD_int, if_tt, if_ff, tysD, ty_int_int, ty_int_bool, ty_int_str, ty_int_tuple, ty_int_list, ty_bl_int, ty_bl_bool, ty_bl_str, ty_bl_tuple, ty_bl_list, ty_str_int, ty_str_bool, ty_str_str, ty_str_tuple, ty_str_list, ty_tup_int, ty_tup_bool, ty_tup_str, ty_tup_tuple, ty_tup_list, ty_non_int, ty_non_bool, ty_non_str, ty_non_tuple, ty_non_list, ty_frz_int, ty_frz_bool, ty_frz_str, ty_frz_tuple, ty_frz_list, tq_int, tq_bool, tq_str, tq_tuple, tq_list, slotK, negK, isNK, notNK, isN_non, isN_int, isN_bl, isN_str, isN_tup, isN_ref, andK, orK, truK, blK, intK, binD, intD, cmpD, icmpD, bifD, asgK, bindTg, bindTgs, tupK, lstK, isiK, bmK, fldK, startE, List.map_cons, List.map_nil, List.length_cons, List.length_nil, List.replicate_succ, List.replicate_zero, List.cons_append, List.nil_append, List.getElem?_cons_zero, List.getElem?_cons_succ, List.getElem?_nil, List.set_cons_zero, List.set_cons_succ, Nat.reduceSub, Nat.reduceAdd, Nat.reduceLT, if_true, if_false, reduceIte, Bool.not_true, Bool.not_false, reduceCtorEq, ixD_ref e1]
  split
  · refine sp_cons ?_
    simp only [Bool.and_eq_true, Bool.or_eq_true, and_true, true_and, or_true, true_or, and_self, Int.reduceLE, Int.reduceLT, Int.reduceAbs, Nat.reducePow, Int.reduceToNat, Int.reducePow, Option.map_some, Option.map_none, beq_iff_eq, decide_eq_true_eq, bind_ok, toS_ok, lift_some, wp_ok, wp_bind, wp_lift_some, wp_ite, sp_toS, sp_ok, sp_ite, seqQ_nx, seqQ_rt, seqQ_bk, seqQ_ct, calQ_nx, calQ_rt, exs_nil, ex_asg, ex_fst, ex_ixs, ex_exp, ex_ret, ex_retn, ex_ife, ex_rai, ex_pass, ex_brk, ex_cont, ev_slot, ev_int, ev_str, ev_bl, ev_non, ev_con, ev_bin, ev_neg, ev_not, ev_and, ev_or, ev_isN, ev_notN, ev_cmp, ev_chn, ev_ite, ev_tup, ev_lst, ev_ix, ev_sl, ev_call, ev_mk, ev_meth, ev_bif, ev_bm, ev_isi, ev_fld, ev_xf, evT_bif, evT_slot, evT_call, evT_meth, evT_isi, evT_ix, evT_fld, evT_bl, tru_bl, evT_not, evT_and, evT_or, evT_cmp, evT_chn, evT_isN, evT_notN, evC_no, evC_so, evo_no, evo_so, evs_nil, evs_cons, evIt_seq, evIt_rng1, evIt_rng2, evIt_zip, eqD_int, at0, at1, at2, at3, addD_int, if_tt, if_ff, tysD, ty_int_int, ty_int_bool, ty_int_str, ty_int_tuple, ty_int_list, ty_bl_int, ty_bl_bool, ty_bl_str, ty_bl_tuple, ty_bl_list, ty_str_int, ty_str_bool, ty_str_str, ty_str_tuple, ty_str_list, ty_tup_int, ty_tup_bool, ty_tup_str, ty_tup_tuple, ty_tup_list, ty_non_int, ty_non_bool, ty_non_str, ty_non_tuple, ty_non_list, ty_frz_int, ty_frz_bool, ty_frz_str, ty_frz_tuple, ty_frz_list, tq_int, tq_bool, tq_str, tq_tuple, tq_list, slotK, negK, isNK, notNK, isN_non, isN_int, isN_bl, isN_str, isN_tup, isN_ref, andK, orK, truK, blK, intK, binD, intD, cmpD, icmpD, bifD, asgK, bindTg, bindTgs, tupK, lstK, isiK, bmK, fldK, startE, List.map_cons, List.map_nil, List.length_cons, List.length_nil, List.replicate_succ, List.replicate_zero, List.cons_append, List.nil_append, List.getElem?_cons_zero, List.getElem?_cons_succ, List.getElem?_nil, List.set_cons_zero, List.set_cons_succ, Nat.reduceSub, Nat.reduceAdd, Nat.reduceLT, if_true, if_false, reduceIte, Bool.not_true, Bool.not_false, reduceCtorEq, ixD_ref e1, ixD_ref e2, lenD_ref e2]
    split
    · rename_i hlt
      rw [at_nat hi hlt]
      have hlt2 : i.toNat < l.length := by
        rw [List.length_map] at hlt
        omega
      rw [List.getElem?_map, List.getElem?_eq_getElem hlt2]
      exact mid _
    · exact mid 0
  · exact tail h i b m none rfl (fun _ _ => rfl) e1 hi hm hm2
end MPk77

set_option Elab.async false
set_option linter.all false
set_option maxRecDepth 100000
set_option autoImplicit false
set_option maxHeartbeats 8000000
namespace MPk77
open PySem MP
abbrev Z : List Nat := (("0123456789" : Str)).cps.toList
def dg (c : Nat) : Bool := decide (c ∈ Z)
def allDg (w : Str) : Bool := (w.cps.toList.map dg).all id
/-- what a word denotes -/
def pn (w : Str) : D := if w.cps.toList = [] then .non else if allDg w = false then .non else if w.cps[0]? = some 48 ∧ 1 < w.length then .non else .int ((PySem.NumText.digitsVal w.cps.toList : Nat) : Int)
theorem dg_iff {c : Nat} : dg c = true ↔ 48 ≤ c ∧ c ≤ 57 := by
  have e : Z = [48, 49, 50, 51, 52, 53, 54, 55, 56, 57] := by decide +kernel
  unfold dg
  rw [decide_eq_true_eq, e]
  simp only [List.mem_cons, List.not_mem_nil, or_false]
  omega
theorem allDg_iff {w : Str} : allDg w = true ↔ PySem.NumText.AllDigits w.cps.toList := by
  unfold allDg PySem.NumText.AllDigits
  rw [List.all_eq_true]
  constructor
  · intro h c hc
    exact dg_iff.mp (h (dg c) (List.mem_map_of_mem hc))
  · intro h b hb
    obtain ⟨c, hc, rfl⟩ := List.mem_map.mp hb
    exact dg_iff.mpr (h c hc)
def gD : D → D
  | .str s => .bl (dg (s.cps.toList.headD 0))
  | d => d
theorem map_gD (w : Str) : (chrs w).map gD = (w.cps.toList.map dg).map D.bl := by
  unfold chrs
  rw [List.map_map, List.map_map]
  rfl
theorem str_nil {w : Str} : w = "" ↔ w.cps.toList = [] := by
  constructor
  · intro e; rw [e]; decide +kernel
  · intro e
    have e2 : w.cps = #[] := by simpa using e
    cases w
    simp only at e2
    subst e2
    decide +kernel
/-- the comprehension over a word's signs -/
theorem signs_wp {k : Nat} {w : Str} {h : Hh} {e : E} {Q : D → Hh → Prop} {E0 : Exn → Hh → Prop} (hz : w.length ≤ 640)
    (he : ∀ d h, ev (cal tb k) tb none e [some (.str w), some d] h = .ok (.str "0123456789") h)
    (q : ∀ h', Gr h h' → Q (.ref h'.length) (h' ++ [.lst ((w.cps.toList.map dg).map D.bl)])) :
    (ev (cal tb k) tb none (.lc (.cmp .inn (.slot 1) e) (.nm 1) (.seq (.slot 0)) .no [1]) [some (.str w), none] h).wp Q E0 := by
  rw [ev_lc_wp, wp_bind]
  simp only [Bool.and_eq_true, Bool.or_eq_true, and_true, true_and, or_true, true_or, and_self, Int.reduceLE, Int.reduceLT, Int.reduceAbs, Nat.reducePow, Int.reduceToNat, Int.reducePow, Option.map_some, Option.map_none, beq_iff_eq, decide_eq_true_eq, bind_ok, toS_ok, lift_some, wp_ok, wp_bind, wp_lift_some, wp_ite, sp_toS, sp_ok, sp_ite, seqQ_nx, seqQ_rt, seqQ_bk, seqQ_ct, calQ_nx, calQ_rt, exs_nil, ex_asg, ex_fst, ex_ixs, ex_exp, ex_ret, ex_retn, ex_ife, ex_rai, ex_pass, ex_brk, ex_cont, ev_slot, ev_int, ev_str, ev_bl, ev_non, ev_con, ev_bin, ev_neg, ev_not, ev_and, ev_or, ev_isN, ev_notN, ev_cmp, ev_chn, ev_ite, ev_tup, ev_lst, ev_ix, ev_sl, ev_call, ev_mk, ev_meth, ev_bif, ev_bm, ev_isi, ev_fld, ev_xf, evT_bif, evT_slot, evT_call, evT_meth, evT_isi, evT_ix, evT_fld, evT_bl, tru_bl, evT_not, evT_and, evT_or, evT_cmp, evT_chn, evT_isN, evT_notN, evC_no, evC_so, evo_no, evo_so, evs_nil, evs_cons, evIt_seq, evIt_rng1, evIt_rng2, evIt_zip, eqD_int, at0, at1, at2, at3, addD_int, if_tt, if_ff, tysD, ty_int_int, ty_int_bool, ty_int_str, ty_int_tuple, ty_int_list, ty_bl_int, ty_bl_bool, ty_bl_str, ty_bl_tuple, ty_bl_list, ty_str_int, ty_str_bool, ty_str_str, ty_str_tuple, ty_str_list, ty_tup_int, ty_tup_bool, ty_tup_str, ty_tup_tuple, ty_tup_list, ty_non_int, ty_non_bool, ty_non_str, ty_non_tuple, ty_non_list, ty_frz_int, ty_frz_bool, ty_frz_str, ty_frz_tuple, ty_frz_list, tq_int, tq_bool, tq_str, tq_tuple, tq_list, slotK, negK, isNK, notNK, isN_non, isN_int, isN_bl, isN_str, isN_tup, isN_ref, andK, orK, truK, blK, intK, binD, intD, cmpD, icmpD, bifD, asgK, bindTg, bindTgs, tupK, lstK, isiK, bmK, fldK, startE, List.map_cons, List.map_nil, List.length_cons, List.length_nil, List.replicate_succ, List.replicate_zero, List.cons_append, List.nil_append, List.getElem?_cons_zero, List.getElem?_cons_succ, List.getElem?_nil, List.set_cons_zero, List.set_cons_succ, Nat.reduceSub, Nat.reduceAdd, Nat.reduceLT, if_true, if_false, reduceIte, Bool.not_true, Bool.not_false, reduceCtorEq, itSeq_str]
  refine lc_map (chrs w) gD h (by unfold chrs; rw [List.length_map]; rfl) (by unfold chrs; rw [List.length_map]; exact Nat.le_trans hz (by decide)) (fun i h' _ => rfl) (fun i x h' hx hg => ?_) (fun h' hg => by rw [map_gD]; exact q h' hg)
  unfold chrs at hx
  rw [List.getElem?_map] at hx
  obtain ⟨c, _, rfl⟩ := Option.map_eq_some_iff.mp hx
  simp only [Bool.and_eq_true, Bool.or_eq_true, and_true, true_and, or_true, true_or, and_self, Int.reduceLE, Int.reduceLT, Int.reduceAbs, Nat.reducePow, Int.reduceToNat, Int.reducePow, Option.map_some, Option.map_none, beq_iff_eq, decide_eq_true_eq, bind_ok, toS_ok, lift_some, wp_ok, wp_bind, wp_lift_some, wp_ite, sp_toS, sp_ok, sp_ite, seqQ_nx, seqQ_rt, seqQ_bk, seqQ_ct, calQ_nx, calQ_rt, exs_nil, ex_asg, ex_fst, ex_ixs, ex_exp, ex_ret, ex_retn, ex_ife, ex_rai, ex_pass, ex_brk, ex_cont, ev_slot, ev_int, ev_str, ev_bl, ev_non, ev_con, ev_bin, ev_neg, ev_not, ev_and, ev_or, ev_isN, ev_notN, ev_cmp, ev_chn, ev_ite, ev_tup, ev_lst, ev_ix, ev_sl, ev_call, ev_mk, ev_meth, ev_bif, ev_bm, ev_isi, ev_fld, ev_xf, evT_bif, evT_slot, evT_call, evT_meth, evT_isi, evT_ix, evT_fld, evT_bl, tru_bl, evT_not, evT_and, evT_or, evT_cmp, evT_chn, evT_isN, evT_notN, evC_no, evC_so, evo_no, evo_so, evs_nil, evs_cons, evIt_seq, evIt_rng1, evIt_rng2, evIt_zip, eqD_int, at0, at1, at2, at3, addD_int, if_tt, if_ff, tysD, ty_int_int, ty_int_bool, ty_int_str, ty_int_tuple, ty_int_list, ty_bl_int, ty_bl_bool, ty_bl_str, ty_bl_tuple, ty_bl_list, ty_str_int, ty_str_bool, ty_str_str, ty_str_tuple, ty_str_list, ty_tup_int, ty_tup_bool, ty_tup_str, ty_tup_tuple, ty_tup_list, ty_non_int, ty_non_bool, ty_non_str, ty_non_tuple, ty_non_list, ty_frz_int, ty_frz_bool, ty_frz_str, ty_frz_tuple, ty_frz_list, tq_int, tq_bool, tq_str, tq_tuple, tq_list, slotK, negK, isNK, notNK, isN_non, isN_int, isN_bl, isN_str, isN_tup, isN_ref, andK, orK, truK, blK, intK, binD, intD, cmpD, icmpD, bifD, asgK, bindTg, bindTgs, tupK, lstK, isiK, bmK, fldK, startE, List.map_cons, List.map_nil, List.length_cons, List.length_nil, List.replicate_succ, List.replicate_zero, List.cons_append, List.nil_append, List.getElem?_cons_zero, List.getElem?_cons_succ, List.getElem?_nil, List.set_cons_zero, List.set_cons_succ, Nat.reduceSub, Nat.reduceAdd, Nat.reduceLT, if_true, if_false, reduceIte, Bool.not_true, Bool.not_false, reduceCtorEq, lcTurn, wipeE, he, inD_str]
  exact ⟨rfl, Gr.refl _⟩
theorem ixD_str0 {h : Hh} {w : Str} {c : Nat} {r : List Nat} (e : w.cps.toList = c :: r) (hz : w.length ≤ 640) : ixD (.str w) (.int 0) h = .ok (.str ⟨#[c]⟩) h := by
  unfold ixD
  dsimp only
  rw [if_pos (Nat.le_trans hz (by decide)), e, at0]
  rfl
theorem parse_number_spec {k : Nat} {h : Hh} {w : Str} (hz : w.length ≤ 640) : (cal tb (k + 1) 178 [.str w] h).wp (fun v h' => v = pn w ∧ Gr h h') (fun _ _ => False) := by
  refine cal_wp (fd := d_parse_number) rfl rfl ?_
  unfold d_parse_number b_parse_number
  refine sp_cons ?_
  simp only [Bool.and_eq_true, Bool.or_eq_true, and_true, true_and, or_true, true_or, and_self, Int.reduceLE, Int.reduceLT, Int.reduceAbs, Nat.reducePow, Int.reduceToNat, Int.reducePow, Option.map_some, Option.map_none, beq_iff_eq, decide_eq_true_eq, bind_ok, toS_ok, lift_some, wp_ok, wp_bind, wp_lift_some, wp_ite, sp_toS, sp_ok, sp_ite, seqQ_nx, seqQ_rt, seqQ_bk, seqQ_ct, calQ_nx, calQ_rt, exs_nil, ex_asg, ex_fst, ex_ixs, ex_exp, ex_ret, ex_retn, ex_ife, ex_rai, ex_pass, ex_brk, ex_cont, ev_slot, ev_int, ev_str, ev_bl, ev_non, ev_con, ev_bin, ev_neg, ev_not, ev_and, ev_or, ev_isN, ev_notN, ev_cmp, ev_chn, ev_ite, ev_tup, ev_lst, ev_ix, ev_sl, ev_call, ev_mk, ev_meth, ev_bif, ev_bm, ev_isi, ev_fld, ev_xf, evT_bif, evT_slot, evT_call, evT_meth, evT_isi, evT_ix, evT_fld, evT_bl, tru_bl, evT_not, evT_and, evT_or, evT_cmp, evT_chn, evT_isN, evT_notN, evC_no, evC_so, evo_no, evo_so, evs_nil, evs_cons, evIt_seq, evIt_rng1, evIt_rng2, evIt_zip, eqD_int, at0, at1, at2, at3, addD_int, if_tt, if_ff, tysD, ty_int_int, ty_int_bool, ty_int_str, ty_int_tuple, ty_int_list, ty_bl_int, ty_bl_bool, ty_bl_str, ty_bl_tuple, ty_bl_list, ty_str_int, ty_str_bool, ty_str_str, ty_str_tuple, ty_str_list, ty_tup_int, ty_tup_bool, ty_tup_str, ty_tup_tuple, ty_tup_list, ty_non_int, ty_non_bool, ty_non_str, ty_non_tuple, ty_non_list, ty_frz_int, ty_frz_bool, ty_frz_str, ty_frz_tuple, ty_frz_list, tq_int, tq_bool, tq_str, tq_tuple, tq_list, slotK, negK, isNK, notNK, isN_non, isN_int, isN_bl, isN_str, isN_tup, isN_ref, andK, orK, truK, blK, intK, binD, intD, cmpD, icmpD, bifD, asgK, bindTg, bindTgs, tupK, lstK, isiK, bmK, fldK, startE, List.map_cons, List.map_nil, List.length_cons, List.length_nil, List.replicate_succ, List.replicate_zero, List.cons_append, List.nil_append, List.getElem?_cons_zero, List.getElem?_cons_succ, List.getElem?_nil, List.set_cons_zero, List.set_cons_succ, Nat.reduceSub, Nat.reduceAdd, Nat.reduceLT, if_true, if_false, reduceIte, Bool.not_true, Bool.not_false, reduceCtorEq, eqD_str]
  split
  · rename_i e
    have e' := str_nil.mp e
    refine sp_cons ?_
    simp only [Bool.and_eq_true, Bool.or_eq_true, and_true, true_and, or_true, true_or, and_self, Int.reduceLE, Int.reduceLT, Int.reduceAbs, Nat.reducePow, Int.reduceToNat, Int.reducePow, Option.map_some, Option.map_none, beq_iff_eq, decide_eq_true_eq, bind_ok, toS_ok, lift_some, wp_ok, wp_bind, wp_lift_some, wp_ite, sp_toS, sp_ok, sp_ite, seqQ_nx, seqQ_rt, seqQ_bk, seqQ_ct, calQ_nx, calQ_rt, exs_nil, ex_asg, ex_fst, ex_ixs, ex_exp, ex_ret, ex_retn, ex_ife, ex_rai, ex_pass, ex_brk, ex_cont, ev_slot, ev_int, ev_str, ev_bl, ev_non, ev_con, ev_bin, ev_neg, ev_not, ev_and, ev_or, ev_isN, ev_notN, ev_cmp, ev_chn, ev_ite, ev_tup, ev_lst, ev_ix, ev_sl, ev_call, ev_mk, ev_meth, ev_bif, ev_bm, ev_isi, ev_fld, ev_xf, evT_bif, evT_slot, evT_call, evT_meth, evT_isi, evT_ix, evT_fld, evT_bl, tru_bl, evT_not, evT_and, evT_or, evT_cmp, evT_chn, evT_isN, evT_notN, evC_no, evC_so, evo_no, evo_so, evs_nil, evs_cons, evIt_seq, evIt_rng1, evIt_rng2, evIt_zip, eqD_int, at0, at1, at2, at3, addD_int, if_tt, if_ff, tysD, ty_int_int, ty_int_bool, ty_int_str, ty_int_tuple, ty_int_list, ty_bl_int, ty_bl_bool, ty_bl_str, ty_bl_tuple, ty_bl_list, ty_str_int, ty_str_bool, ty_str_str, ty_str_tuple, ty_str_list, ty_tup_int, ty_tup_bool, ty_tup_str, ty_tup_tuple, ty_tup_list, ty_non_int, ty_non_bool, ty_non_str, ty_non_tuple, ty_non_list, ty_frz_int, ty_frz_bool, ty_frz_str, ty_frz_tuple, ty_frz_list, tq_int, tq_bool, tq_str, tq_tuple, tq_list, slotK, negK, isNK, notNK, isN_non, isN_int, isN_bl, isN_str, isN_tup, isN_ref, andK, orK, truK, blK, intK, binD, intD, cmpD, icmpD, bifD, asgK, bindTg, bindTgs, tupK, lstK, isiK, bmK, fldK, startE, List.map_cons, List.map_nil, List.length_cons, List.length_nil, List.replicate_succ, List.replicate_zero, List.cons_append, List.nil_append, List.getElem?_cons_zero, List.getElem?_cons_succ, List.getElem?_nil, List.set_cons_zero, List.set_cons_succ, Nat.reduceSub, Nat.reduceAdd, Nat.reduceLT, if_true, if_false, reduceIte, Bool.not_true, Bool.not_false, reduceCtorEq]
    refine ⟨?_, Gr.refl _⟩
    unfold pn
    rw [if_pos e']
  · rename_i e
    have e' : w.cps.toList ≠ [] := fun z => e (str_nil.mpr z)
    refine signs_wp hz (fun d h => by rw [ev_con]) fun h' hg => ?_
    simp only [Bool.and_eq_true, Bool.or_eq_true, and_true, true_and, or_true, true_or, and_self, Int.reduceLE, Int.reduceLT, Int.reduceAbs, Nat.reducePow, Int.reduceToNat, Int.reducePow, Option.map_some, Option.map_none, beq_iff_eq, decide_eq_true_eq, bind_ok, toS_ok, lift_some, wp_ok, wp_bind, wp_lift_some, wp_ite, sp_toS, sp_ok, sp_ite, seqQ_nx, seqQ_rt, seqQ_bk, seqQ_ct, calQ_nx, calQ_rt, exs_nil, ex_asg, ex_fst, ex_ixs, ex_exp, ex_ret, ex_retn, ex_ife, ex_rai, ex_pass, ex_brk, ex_cont, ev_slot, ev_int, ev_str, ev_bl, ev_non, ev_con, ev_bin, ev_neg, ev_not, ev_and, ev_or, ev_isN, ev_notN, ev_cmp, ev_chn, ev_ite, ev_tup, ev_lst, ev_ix, ev_sl, ev_call, ev_mk, ev_meth, ev_bif, ev_bm, ev_isi, ev_fld, ev_xf, evT_bif, evT_slot, evT_call, evT_meth, evT_isi, evT_ix, evT_fld, evT_bl, tru_bl, evT_not, evT_and, evT_or, evT_cmp, evT_chn, evT_isN, evT_notN, evC_no, evC_so, evo_no, evo_so, evs_nil, evs_cons, evIt_seq, evIt_rng1, evIt_rng2, evIt_zip, eqD_int, at0, at1, at2, at3, addD_int, if_tt, if_ff, tysD, ty_int_int, ty_int_bool, ty_int_str, ty_int_tuple, ty_int_list, ty_bl_int, ty_bl_bool, ty_bl_str, ty_bl_tuple, ty_bl_list, ty_str_int, ty_str_bool, ty_str_str, ty_str_tuple, ty_str_list, ty_tup_int, ty_tup_bool, ty_tup_str, ty_tup_tuple, ty_tup_list, ty_non_int, ty_non_bool, ty_non_str, ty_non_tuple, ty_non_list, ty_frz_int, ty_frz_bool, ty_frz_str, ty_frz_tuple, ty_frz_list, tq_int, tq_bool, tq_str, tq_tuple, tq_list, slotK, negK, isNK, notNK, isN_non, isN_int, isN_bl, isN_str, isN_tup, isN_ref, andK, orK, truK, blK, intK, binD, intD, cmpD, icmpD, bifD, asgK, bindTg, bindTgs, tupK, lstK, isiK, bmK, fldK, startE, List.map_cons, List.map_nil, List.length_cons, List.length_nil, List.replicate_succ, List.replicate_zero, List.cons_append, List.nil_append, List.getElem?_cons_zero, List.getElem?_cons_succ, List.getElem?_nil, List.set_cons_zero, List.set_cons_succ, Nat.reduceSub, Nat.reduceAdd, Nat.reduceLT, if_true, if_false, reduceIte, Bool.not_true, Bool.not_false, reduceCtorEq, allD_ref (get_push _ _)]
    have hg2 : Gr h (h' ++ [.lst ((w.cps.toList.map dg).map D.bl)]) := hg.trans (Gr.push _ _)
    generalize h' ++ [.lst ((w.cps.toList.map dg).map D.bl)] = h2 at hg2
    obtain ⟨c, r, hw⟩ : ∃ c r, w.cps.toList = c :: r := by
      cases hh : w.cps.toList with
      | nil => exact absurd hh e'
      | cons c r => exact ⟨c, r, rfl⟩
    cases hd : allDg w with
    | false =>
      have hd' : (List.map dg w.cps.toList).all id = false := hd
      simp only [hd', Bool.and_eq_true, Bool.or_eq_true, and_true, true_and, or_true, true_or, and_self, Int.reduceLE, Int.reduceLT, Int.reduceAbs, Nat.reducePow, Int.reduceToNat, Int.reducePow, Option.map_some, Option.map_none, beq_iff_eq, decide_eq_true_eq, bind_ok, toS_ok, lift_some, wp_ok, wp_bind, wp_lift_some, wp_ite, sp_toS, sp_ok, sp_ite, seqQ_nx, seqQ_rt, seqQ_bk, seqQ_ct, calQ_nx, calQ_rt, exs_nil, ex_asg, ex_fst, ex_ixs, ex_exp, ex_ret, ex_retn, ex_ife, ex_rai, ex_pass, ex_brk, ex_cont, ev_slot, ev_int, ev_str, ev_bl, ev_non, ev_con, ev_bin, ev_neg, ev_not, ev_and, ev_or, ev_isN, ev_notN, ev_cmp, ev_chn, ev_ite, ev_tup, ev_lst, ev_ix, ev_sl, ev_call, ev_mk, ev_meth, ev_bif, ev_bm, ev_isi, ev_fld, ev_xf, evT_bif, evT_slot, evT_call, evT_meth, evT_isi, evT_ix, evT_fld, evT_bl, tru_bl, evT_not, evT_and, evT_or, evT_cmp, evT_chn, evT_isN, evT_notN, evC_no, evC_so, evo_no, evo_so, evs_nil, evs_cons, evIt_seq, evIt_rng1, evIt_rng2, evIt_zip, eqD_int, at0, at1, at2, at3, addD_int, if_tt, if_ff, tysD, ty_int_int, ty_int_bool, ty_int_str, ty_int_tuple, ty_int_list, ty_bl_int, ty_bl_bool, ty_bl_str, ty_bl_tuple, ty_bl_list, ty_str_int, ty_str_bool, ty_str_str, ty_str_tuple, ty_str_list, ty_tup_int, ty_tup_bool, ty_tup_str, ty_tup_tuple, ty_tup_list, ty_non_int, ty_non_bool, ty_non_str, ty_non_tuple, ty_non_list, ty_frz_int, ty_frz_bool, ty_frz_str, ty_frz_tuple, ty_frz_list, tq_int, tq_bool, tq_str, tq_tuple, tq_list, slotK, negK, isNK, notNK, isN_non, isN_int, isN_bl, isN_str, isN_tup, isN_ref, andK, orK, truK, blK, intK, binD, intD, cmpD, icmpD, bifD, asgK, bindTg, bindTgs, tupK, lstK, isiK, bmK, fldK, startE, List.map_cons, List.map_nil, List.length_cons, List.length_nil, List.replicate_succ, List.replicate_zero, List.cons_append, List.nil_append, List.getElem?_cons_zero, List.getElem?_cons_succ, List.getElem?_nil, List.set_cons_zero, List.set_cons_succ, Nat.reduceSub, Nat.reduceAdd, Nat.reduceLT, if_true, if_false, reduceIte, Bool.not_true, Bool.not_false, reduceCtorEq]
      refine sp_cons ?_
      simp only [Bool.and_eq_true, Bool.or_eq_true, and_true, true_and, or_true, true_or, and_self, Int.reduceLE, Int.reduceLT, Int.reduceAbs, Nat.reducePow, Int.reduceToNat, Int.reducePow, Option.map_some, Option.map_none, beq_iff_eq, decide_eq_true_eq, bind_ok, toS_ok, lift_some, wp_ok, wp_bind, wp_lift_some, wp_ite, sp_toS, sp_ok, sp_ite, seqQ_nx, seqQ_rt, seqQ_bk, seqQ_ct, calQ_nx, calQ_rt, exs_nil, ex_asg, ex_fst, ex_ixs, ex_exp, ex_ret, ex_retn, ex_ife, ex_rai, ex_pass, ex_brk, ex_cont, ev_slot, ev_int, ev_str, ev_bl, ev_non, ev_con, ev_bin, ev_neg, ev_not, ev_and, ev_or, ev_isN, ev_notN, ev_cmp, ev_chn, ev_ite, ev_tup, ev_lst, ev_ix, ev_sl, ev_call, ev_mk, ev_meth, ev_bif, ev_bm, ev_isi, ev_fld, ev_xf, evT_bif, evT_slot, evT_call, evT_meth, evT_isi, evT_ix, evT_fld, evT_bl, tru_bl, evT_not, evT_and, evT_or, evT_cmp, evT_chn, evT_isN, evT_notN, evC_no, evC_so, evo_no, evo_so, evs_nil, evs_cons, evIt_seq, evIt_rng1, evIt_rng2, evIt_zip, eqD_int, at0, at1, at2, at3, addD_int, if_tt, if_ff, tysD, ty_int_int, ty_int_bool, ty_int_str, ty_int_tuple, ty_int_list, ty_bl_int, ty_bl_bool, ty_bl_str, ty_bl_tuple, ty_bl_list, ty_str_int, ty_str_bool, ty_str_str, ty_str_tuple, ty_str_list, ty_tup_int, ty_tup_bool, ty_tup_str, ty_tup_tuple, ty_tup_list, ty_non_int, ty_non_bool, ty_non_str, ty_non_tuple, ty_non_list, ty_frz_int, ty_frz_bool, ty_frz_str, ty_frz_tuple, ty_frz_list, tq_int, tq_bool, tq_str, tq_tuple, tq_list, slotK, negK, isNK, notNK, isN_non, isN_int, isN_bl, isN_str, isN_tup, isN_ref, andK, orK, truK, blK, intK, binD, intD, cmpD, icmpD, bifD, asgK, bindTg, bindTgs, tupK, lstK, isiK, bmK, fldK, startE, List.map_cons, List.map_nil, List.length_cons, List.length_nil, List.replicate_succ, List.replicate_zero, List.cons_append, List.nil_append, List.getElem?_cons_zero, List.getElem?_cons_succ, List.getElem?_nil, List.set_cons_zero, List.set_cons_succ, Nat.reduceSub, Nat.reduceAdd, Nat.reduceLT, if_true, if_false, reduceIte, Bool.not_true, Bool.not_false, reduceCtorEq]
      refine ⟨?_, hg2⟩
      unfold pn
      rw [if_neg e', if_pos hd]
    | true =>
      have hd' : (List.map dg w.cps.toList).all id = true := hd
      simp only [hd', Bool.and_eq_true, Bool.or_eq_true, and_true, true_and, or_true, true_or, and_self, Int.reduceLE, Int.reduceLT, Int.reduceAbs, Nat.reducePow, Int.reduceToNat, Int.reducePow, Option.map_some, Option.map_none, beq_iff_eq, decide_eq_true_eq, bind_ok, toS_ok, lift_some, wp_ok, wp_bind, wp_lift_some, wp_ite, sp_toS, sp_ok, sp_ite, seqQ_nx, seqQ_rt, seqQ_bk, seqQ_ct, calQ_nx, calQ_rt, exs_nil, ex_asg, ex_fst, ex_ixs, ex_exp, ex_ret, ex_retn, ex_ife, ex_rai, ex_pass, ex_brk, ex_cont, ev_slot, ev_int, ev_str, ev_bl, ev_non, ev_con, ev_bin, ev_neg, ev_not, ev_and, ev_or, ev_isN, ev_notN, ev_cmp, ev_chn, ev_ite, ev_tup, ev_lst, ev_ix, ev_sl, ev_call, ev_mk, ev_meth, ev_bif, ev_bm, ev_isi, ev_fld, ev_xf, evT_bif, evT_slot, evT_call, evT_meth, evT_isi, evT_ix, evT_fld, evT_bl, tru_bl, evT_not, evT_and, evT_or, evT_cmp, evT_chn, evT_isN, evT_notN, evC_no, evC_so, evo_no, evo_so, evs_nil, evs_cons, evIt_seq, evIt_rng1, evIt_rng2, evIt_zip, eqD_int, at0, at1, at2, at3, addD_int, if_tt, if_ff, tysD, ty_int_int, ty_int_bool, ty_int_str, ty_int_tuple, ty_int_list, ty_bl_int, ty_bl_bool, ty_bl_str, ty_bl_tuple, ty_bl_list, ty_str_int, ty_str_bool, ty_str_str, ty_str_tuple, ty_str_list, ty_tup_int, ty_tup_bool, ty_tup_str, ty_tup_tuple, ty_tup_list, ty_non_int, ty_non_bool, ty_non_str, ty_non_tuple, ty_non_list, ty_frz_int, ty_frz_bool, ty_frz_str, ty_frz_tuple, ty_frz_list, tq_int, tq_bool, tq_str, tq_tuple, tq_list, slotK, negK, isNK, notNK, isN_non, isN_int, isN_bl, isN_str, isN_tup, isN_ref, andK, orK, truK, blK, intK, binD, intD, cmpD, icmpD, bifD, asgK, bindTg, bindTgs, tupK, lstK, isiK, bmK, fldK, startE, List.map_cons, List.map_nil, List.length_cons, List.length_nil, List.replicate_succ, List.replicate_zero, List.cons_append, List.nil_append, List.getElem?_cons_zero, List.getElem?_cons_succ, List.getElem?_nil, List.set_cons_zero, List.set_cons_succ, Nat.reduceSub, Nat.reduceAdd, Nat.reduceLT, if_true, if_false, reduceIte, Bool.not_true, Bool.not_false, reduceCtorEq]
      refine sp_cons ?_
      simp only [Bool.and_eq_true, Bool.or_eq_true, and_true, true_and, or_true, true_or, and_self, Int.reduceLE, Int.reduceLT, Int.reduceAbs, Nat.reducePow, Int.reduceToNat, Int.reducePow, Option.map_some, Option.map_none, beq_iff_eq, decide_eq_true_eq, bind_ok, toS_ok, lift_some, wp_ok, wp_bind, wp_lift_some, wp_ite, sp_toS, sp_ok, sp_ite, seqQ_nx, seqQ_rt, seqQ_bk, seqQ_ct, calQ_nx, calQ_rt, exs_nil, ex_asg, ex_fst, ex_ixs, ex_exp, ex_ret, ex_retn, ex_ife, ex_rai, ex_pass, ex_brk, ex_cont, ev_slot, ev_int, ev_str, ev_bl, ev_non, ev_con, ev_bin, ev_neg, ev_not, ev_and, ev_or, ev_isN, ev_notN, ev_cmp, ev_chn, ev_ite, ev_tup, ev_lst, ev_ix, ev_sl, ev_call, ev_mk, ev_meth, ev_bif, ev_bm, ev_isi, ev_fld, ev_xf, evT_bif, evT_slot, evT_call, evT_meth, evT_isi, evT_ix, evT_fld, evT_bl, tru_bl, evT_not, evT_and, evT_or, evT_cmp, evT_chn, evT_isN, evT_notN, evC_no, evC_so, evo_no, evo_so, evs_nil, evs_cons, evIt_seq, evIt_rng1, evIt_rng2, evIt_zip, eqD_int, at0, at1, at2, at3, addD_int, if_tt, if_ff, tysD, ty_int_int, ty_int_bool, ty_int_str, ty_int_tuple, ty_int_list, ty_bl_int, ty_bl_bool, ty_bl_str, ty_bl_tuple, ty_bl_list, ty_str_int, ty_str_bool, ty_str_str, ty_str_tuple, ty_str_list, ty_tup_int, ty_tup_bool, ty_tup_str, ty_tup_tuple, ty_tup_list, ty_non_int, ty_non_bool, ty_non_str, ty_non_tuple, ty_non_list, ty_frz_int, ty_frz_bool, ty_frz_str, ty_frz_tuple, ty_frz_list, tq_int, tq_bool, tq_str, tq_tuple, tq_list, slotK, negK, isNK, notNK, isN_non, isN_int, isN_bl, isN_str, isN_tup, isN_ref, andK, orK, truK, blK, intK, binD, intD, cmpD, icmpD, bifD, asgK, bindTg, bindTgs, tupK, lstK, isiK, bmK, fldK, startE, List.map_cons, List.map_nil, List.length_cons, List.length_nil, List.replicate_succ, List.replicate_zero, List.cons_append, List.nil_append, List.getElem?_cons_zero, List.getElem?_cons_succ, List.getElem?_nil, List.set_cons_zero, List.set_cons_succ, Nat.reduceSub, Nat.reduceAdd, Nat.reduceLT, if_true, if_false, reduceIte, Bool.not_true, Bool.not_false, reduceCtorEq, eqD_str, ixD_str0 hw hz]
      have it : intOfD [.str w] h2 = .ok (.int ((PySem.NumText.digitsVal w.cps.toList : Nat) : Int)) h2 := by
        unfold intOfD
        dsimp only
        rw [if_pos hz, PySem.intText_digits (allDg_iff.mp hd) e' (Nat.le_trans hz (by decide))]
        rfl
      have h0 : w.cps[0]? = some c := by rw [← Array.getElem?_toList, hw]; rfl
      have hl : w.length = r.length + 1 := by
        show w.cps.size = _
        rw [← Array.length_toList, hw]; rfl
      have one0 : ((⟨#[c]⟩ : Str) = "0") ↔ c = 48 := by
        constructor
        · intro z
          have := congrArg (fun s : Str => s.cps.toList) z
          have e0 : (("0" : Str)).cps.toList = [48] := by decide +kernel
          simp only [e0] at this
          simpa using this
        · intro z; subst z; decide +kernel
      have w0 : w = "0" ↔ c = 48 ∧ r = [] := by
        have e0 : (("0" : Str)).cps.toList = [48] := by decide +kernel
        constructor
        · intro z
          rw [z, e0] at hw
          cases hw
          exact ⟨rfl, rfl⟩
        · rintro ⟨rfl, rfl⟩
          cases w
          rename_i cps
          have : cps = #[48] := by
            apply Array.toList_inj.mp
            simpa using hw
          subst this
          decide +kernel
      by_cases h1 : w = "0"
      · obtain ⟨c0, r0⟩ := w0.mp h1
        rw [if_pos h1, it]
        refine ⟨?_, hg2⟩
        unfold pn
        rw [if_neg e', if_neg (by rw [hd]; decide), if_neg (by rw [hl, r0]; simp)]
      · rw [if_neg h1]
        by_cases h2c : c = 48
        · have hr : r ≠ [] := fun z => h1 (w0.mpr ⟨h2c, z⟩)
          have ne : (!((⟨#[c]⟩ : Str) == "0")) = false := by
            rw [one0.mpr h2c]; decide +kernel
          simp only [ne, Bool.and_eq_true, Bool.or_eq_true, and_true, true_and, or_true, true_or, and_self, Int.reduceLE, Int.reduceLT, Int.reduceAbs, Nat.reducePow, Int.reduceToNat, Int.reducePow, Option.map_some, Option.map_none, beq_iff_eq, decide_eq_true_eq, bind_ok, toS_ok, lift_some, wp_ok, wp_bind, wp_lift_some, wp_ite, sp_toS, sp_ok, sp_ite, seqQ_nx, seqQ_rt, seqQ_bk, seqQ_ct, calQ_nx, calQ_rt, exs_nil, ex_asg, ex_fst, ex_ixs, ex_exp, ex_ret, ex_retn, ex_ife, ex_rai, ex_pass, ex_brk, ex_cont, ev_slot, ev_int, ev_str, ev_bl, ev_non, ev_con, ev_bin, ev_neg, ev_not, ev_and, ev_or, ev_isN, ev_notN, ev_cmp, ev_chn, ev_ite, ev_tup, ev_lst, ev_ix, ev_sl, ev_call, ev_mk, ev_meth, ev_bif, ev_bm, ev_isi, ev_fld, ev_xf, evT_bif, evT_slot, evT_call, evT_meth, evT_isi, evT_ix, evT_fld, evT_bl, tru_bl, evT_not, evT_and, evT_or, evT_cmp, evT_chn, evT_isN, evT_notN, evC_no, evC_so, evo_no, evo_so, evs_nil, evs_cons, evIt_seq, evIt_rng1, evIt_rng2, evIt_zip, eqD_int, at0, at1, at2, at3, addD_int, if_tt, if_ff, tysD, ty_int_int, ty_int_bool, ty_int_str, ty_int_tuple, ty_int_list, ty_bl_int, ty_bl_bool, ty_bl_str, ty_bl_tuple, ty_bl_list, ty_str_int, ty_str_bool, ty_str_str, ty_str_tuple, ty_str_list, ty_tup_int, ty_tup_bool, ty_tup_str, ty_tup_tuple, ty_tup_list, ty_non_int, ty_non_bool, ty_non_str, ty_non_tuple, ty_non_list, ty_frz_int, ty_frz_bool, ty_frz_str, ty_frz_tuple, ty_frz_list, tq_int, tq_bool, tq_str, tq_tuple, tq_list, slotK, negK, isNK, notNK, isN_non, isN_int, isN_bl, isN_str, isN_tup, isN_ref, andK, orK, truK, blK, intK, binD, intD, cmpD, icmpD, bifD, asgK, bindTg, bindTgs, tupK, lstK, isiK, bmK, fldK, startE, List.map_cons, List.map_nil, List.length_cons, List.length_nil, List.replicate_succ, List.replicate_zero, List.cons_append, List.nil_append, List.getElem?_cons_zero, List.getElem?_cons_succ, List.getElem?_nil, List.set_cons_zero, List.set_cons_succ, Nat.reduceSub, Nat.reduceAdd, Nat.reduceLT, if_true, if_false, reduceIte, Bool.not_true, Bool.not_false, reduceCtorEq]
          refine ⟨?_, hg2⟩
          unfold pn
          rw [if_neg e', if_neg (by rw [hd]; decide), if_pos ⟨by rw [h0, h2c], by rw [hl]; have := List.length_pos_iff.mpr hr; omega⟩]
        · have ne : (!((⟨#[c]⟩ : Str) == "0")) = true := by
            rw [Bool.not_eq_true', beq_eq_false_iff_ne]
            exact fun z => h2c (one0.mp z)
          simp only [ne, it, Bool.and_eq_true, Bool.or_eq_true, and_true, true_and, or_true, true_or, and_self, Int.reduceLE, Int.reduceLT, Int.reduceAbs, Nat.reducePow, Int.reduceToNat, Int.reducePow, Option.map_some, Option.map_none, beq_iff_eq, decide_eq_true_eq, bind_ok, toS_ok, lift_some, wp_ok, wp_bind, wp_lift_some, wp_ite, sp_toS, sp_ok, sp_ite, seqQ_nx, seqQ_rt, seqQ_bk, seqQ_ct, calQ_nx, calQ_rt, exs_nil, ex_asg, ex_fst, ex_ixs, ex_exp, ex_ret, ex_retn, ex_ife, ex_rai, ex_pass, ex_brk, ex_cont, ev_slot, ev_int, ev_str, ev_bl, ev_non, ev_con, ev_bin, ev_neg, ev_not, ev_and, ev_or, ev_isN, ev_notN, ev_cmp, ev_chn, ev_ite, ev_tup, ev_lst, ev_ix, ev_sl, ev_call, ev_mk, ev_meth, ev_bif, ev_bm, ev_isi, ev_fld, ev_xf, evT_bif, evT_slot, evT_call, evT_meth, evT_isi, evT_ix, evT_fld, evT_bl, tru_bl, evT_not, evT_and, evT_or, evT_cmp, evT_chn, evT_isN, evT_notN, evC_no, evC_so, evo_no, evo_so, evs_nil, evs_cons, evIt_seq, evIt_rng1, evIt_rng2, evIt_zip, eqD_int, at0, at1, at2, at3, addD_int, if_tt, if_ff, tysD, ty_int_int, ty_int_bool, ty_int_str, ty_int_tuple, ty_int_list, ty_bl_int, ty_bl_bool, ty_bl_str, ty_bl_tuple, ty_bl_list, ty_str_int, ty_str_bool, ty_str_str, ty_str_tuple, ty_str_list, ty_tup_int, ty_tup_bool, ty_tup_str, ty_tup_tuple, ty_tup_list, ty_non_int, ty_non_bool, ty_non_str, ty_non_tuple, ty_non_list, ty_frz_int, ty_frz_bool, ty_frz_str, ty_frz_tuple, ty_frz_list, tq_int, tq_bool, tq_str, tq_tuple, tq_list, slotK, negK, isNK, notNK, isN_non, isN_int, isN_bl, isN_str, isN_tup, isN_ref, andK, orK, truK, blK, intK, binD, intD, cmpD, icmpD, bifD, asgK, bindTg, bindTgs, tupK, lstK, isiK, bmK, fldK, startE, List.map_cons, List.map_nil, List.length_cons, List.length_nil, List.replicate_succ, List.replicate_zero, List.cons_append, List.nil_append, List.getElem?_cons_zero, List.getElem?_cons_succ, List.getElem?_nil, List.set_cons_zero, List.set_cons_succ, Nat.reduceSub, Nat.reduceAdd, Nat.reduceLT, if_true, if_false, reduceIte, Bool.not_true, Bool.not_false, reduceCtorEq]
          refine ⟨?_, hg2⟩
          unfold pn
          rw [if_neg e', if_neg (by rw [hd]; decide), if_neg (by rw [h0]; rintro ⟨z, _⟩; exact h2c (Option.some.inj z))]
theorem one0 {c : Nat} : ((⟨#[c]⟩ : Str) = "0") ↔ c = 48 := by
  constructor
  · intro z
    have := congrArg (fun s : Str => s.cps.toList) z
    have e0 : (("0" : Str)).cps.toList = [48] := by decide +kernel
    simp only [e0] at this
    simpa using this
  · intro z; subst z; decide +kernel
theorem lenD_str {h : Hh} {w : Str} (hz : w.length ≤ 640) : lenD [.str w] h = .ok (.int w.length) h := by
  unfold lenD
  dsimp only
  rw [if_pos (Nat.le_trans hz (by decide))]
theorem int_of {w : Str} (h2 : Hh) (hz : w.length ≤ 640) (hd : allDg w = true) (e' : w.cps.toList ≠ []) : intOfD [.str w] h2 = .ok (.int ((PySem.NumText.digitsVal w.cps.toList : Nat) : Int)) h2 := by
  unfold intOfD
  dsimp only
  rw [if_pos hz, PySem.intText_digits (allDg_iff.mp hd) e' (Nat.le_trans hz (by decide))]
  rfl
theorem law_parse_number_spec {k : Nat} {h : Hh} {w : Str} (hz : w.length ≤ 640) : (cal tb (k + 1) 1003 [.str w] h).wp (fun v h' => v = pn w ∧ Gr h h') (fun _ _ => False) := by
  refine cal_wp (fd := d__law_parse_number) rfl rfl ?_
  unfold d__law_parse_number b__law_parse_number
  refine sp_cons ?_
  simp only [Bool.and_eq_true, Bool.or_eq_true, and_true, true_and, or_true, true_or, and_self, Int.reduceLE, Int.reduceLT, Int.reduceAbs, Nat.reducePow, Int.reduceToNat, Int.reducePow, Option.map_some, Option.map_none, beq_iff_eq, decide_eq_true_eq, bind_ok, toS_ok, lift_some, wp_ok, wp_bind, wp_lift_some, wp_ite, sp_toS, sp_ok, sp_ite, seqQ_nx, seqQ_rt, seqQ_bk, seqQ_ct, calQ_nx, calQ_rt, exs_nil, ex_asg, ex_fst, ex_ixs, ex_exp, ex_ret, ex_retn, ex_ife, ex_rai, ex_pass, ex_brk, ex_cont, ev_slot, ev_int, ev_str, ev_bl, ev_non, ev_con, ev_bin, ev_neg, ev_not, ev_and, ev_or, ev_isN, ev_notN, ev_cmp, ev_chn, ev_ite, ev_tup, ev_lst, ev_ix, ev_sl, ev_call, ev_mk, ev_meth, ev_bif, ev_bm, ev_isi, ev_fld, ev_xf, evT_bif, evT_slot, evT_call, evT_meth, evT_isi, evT_ix, evT_fld, evT_bl, tru_bl, evT_not, evT_and, evT_or, evT_cmp, evT_chn, evT_isN, evT_notN, evC_no, evC_so, evo_no, evo_so, evs_nil, evs_cons, evIt_seq, evIt_rng1, evIt_rng2, evIt_zip, eqD_int, at0, at1, at2, at3, addD_int, if_tt, if_ff, tysD, ty_int_int, ty_int_bool, ty_int_str, ty_int_tuple, ty_int_list, ty_bl_int, ty_bl_bool, ty_bl_str, ty_bl_tuple, ty_bl_list, ty_str_int, ty_str_bool, ty_str_str, ty_str_tuple, ty_str_list, ty_tup_int, ty_tup_bool, ty_tup_str, ty_tup_tuple, ty_tup_list, ty_non_int, ty_non_bool, ty_non_str, ty_non_tuple, ty_non_list, ty_frz_int, ty_frz_bool, ty_frz_str, ty_frz_tuple, ty_frz_list, tq_int, tq_bool, tq_str, tq_tuple, tq_list, slotK, negK, isNK, notNK, isN_non, isN_int, isN_bl, isN_str, isN_tup, isN_ref, andK, orK, truK, blK, intK, binD, intD, cmpD, icmpD, bifD, asgK, bindTg, bindTgs, tupK, lstK, isiK, bmK, fldK, startE, List.map_cons, List.map_nil, List.length_cons, List.length_nil, List.replicate_succ, List.replicate_zero, List.cons_append, List.nil_append, List.getElem?_cons_zero, List.getElem?_cons_succ, List.getElem?_nil, List.set_cons_zero, List.set_cons_succ, Nat.reduceSub, Nat.reduceAdd, Nat.reduceLT, if_true, if_false, reduceIte, Bool.not_true, Bool.not_false, reduceCtorEq, eqD_str]
  split
  · rename_i e
    have e' := str_nil.mp e
    refine sp_cons ?_
    simp only [Bool.and_eq_true, Bool.or_eq_true, and_true, true_and, or_true, true_or, and_self, Int.reduceLE, Int.reduceLT, Int.reduceAbs, Nat.reducePow, Int.reduceToNat, Int.reducePow, Option.map_some, Option.map_none, beq_iff_eq, decide_eq_true_eq, bind_ok, toS_ok, lift_some, wp_ok, wp_bind, wp_lift_some, wp_ite, sp_toS, sp_ok, sp_ite, seqQ_nx, seqQ_rt, seqQ_bk, seqQ_ct, calQ_nx, calQ_rt, exs_nil, ex_asg, ex_fst, ex_ixs, ex_exp, ex_ret, ex_retn, ex_ife, ex_rai, ex_pass, ex_brk, ex_cont, ev_slot, ev_int, ev_str, ev_bl, ev_non, ev_con, ev_bin, ev_neg, ev_not, ev_and, ev_or, ev_isN, ev_notN, ev_cmp, ev_chn, ev_ite, ev_tup, ev_lst, ev_ix, ev_sl, ev_call, ev_mk, ev_meth, ev_bif, ev_bm, ev_isi, ev_fld, ev_xf, evT_bif, evT_slot, evT_call, evT_meth, evT_isi, evT_ix, evT_fld, evT_bl, tru_bl, evT_not, evT_and, evT_or, evT_cmp, evT_chn, evT_isN, evT_notN, evC_no, evC_so, evo_no, evo_so, evs_nil, evs_cons, evIt_seq, evIt_rng1, evIt_rng2, evIt_zip, eqD_int, at0, at1, at2, at3, addD_int, if_tt, if_ff, tysD, ty_int_int, ty_int_bool, ty_int_str, ty_int_tuple, ty_int_list, ty_bl_int, ty_bl_bool, ty_bl_str, ty_bl_tuple, ty_bl_list, ty_str_int, ty_str_bool, ty_str_str, ty_str_tuple, ty_str_list, ty_tup_int, ty_tup_bool, ty_tup_str, ty_tup_tuple, ty_tup_list, ty_non_int, ty_non_bool, ty_non_str, ty_non_tuple, ty_non_list, ty_frz_int, ty_frz_bool, ty_frz_str, ty_frz_tuple, ty_frz_list, tq_int, tq_bool, tq_str, tq_tuple, tq_list, slotK, negK, isNK, notNK, isN_non, isN_int, isN_bl, isN_str, isN_tup, isN_ref, andK, orK, truK, blK, intK, binD, intD, cmpD, icmpD, bifD, asgK, bindTg, bindTgs, tupK, lstK, isiK, bmK, fldK, startE, List.map_cons, List.map_nil, List.length_cons, List.length_nil, List.replicate_succ, List.replicate_zero, List.cons_append, List.nil_append, List.getElem?_cons_zero, List.getElem?_cons_succ, List.getElem?_nil, List.set_cons_zero, List.set_cons_succ, Nat.reduceSub, Nat.reduceAdd, Nat.reduceLT, if_true, if_false, reduceIte, Bool.not_true, Bool.not_false, reduceCtorEq]
    refine ⟨?_, Gr.refl _⟩
    unfold pn
    rw [if_pos e']
  · rename_i e
    have e' : w.cps.toList ≠ [] := fun z => e (str_nil.mpr z)
    refine signs_wp hz (fun d h => by rw [ev_str]) fun h' hg => ?_
    simp only [Bool.and_eq_true, Bool.or_eq_true, and_true, true_and, or_true, true_or, and_self, Int.reduceLE, Int.reduceLT, Int.reduceAbs, Nat.reducePow, Int.reduceToNat, Int.reducePow, Option.map_some, Option.map_none, beq_iff_eq, decide_eq_true_eq, bind_ok, toS_ok, lift_some, wp_ok, wp_bind, wp_lift_some, wp_ite, sp_toS, sp_ok, sp_ite, seqQ_nx, seqQ_rt, seqQ_bk, seqQ_ct, calQ_nx, calQ_rt, exs_nil, ex_asg, ex_fst, ex_ixs, ex_exp, ex_ret, ex_retn, ex_ife, ex_rai, ex_pass, ex_brk, ex_cont, ev_slot, ev_int, ev_str, ev_bl, ev_non, ev_con, ev_bin, ev_neg, ev_not, ev_and, ev_or, ev_isN, ev_notN, ev_cmp, ev_chn, ev_ite, ev_tup, ev_lst, ev_ix, ev_sl, ev_call, ev_mk, ev_meth, ev_bif, ev_bm, ev_isi, ev_fld, ev_xf, evT_bif, evT_slot, evT_call, evT_meth, evT_isi, evT_ix, evT_fld, evT_bl, tru_bl, evT_not, evT_and, evT_or, evT_cmp, evT_chn, evT_isN, evT_notN, evC_no, evC_so, evo_no, evo_so, evs_nil, evs_cons, evIt_seq, evIt_rng1, evIt_rng2, evIt_zip, eqD_int, at0, at1, at2, at3, addD_int, if_tt, if_ff, tysD, ty_int_int, ty_int_bool, ty_int_str, ty_int_tuple, ty_int_list, ty_bl_int, ty_bl_bool, ty_bl_str, ty_bl_tuple, ty_bl_list, ty_str_int, ty_str_bool, ty_str_str, ty_str_tuple, ty_str_list, ty_tup_int, ty_tup_bool, ty_tup_str, ty_tup_tuple, ty_tup_list, ty_non_int, ty_non_bool, ty_non_str, ty_non_tuple, ty_non_list, ty_frz_int, ty_frz_bool, ty_frz_str, ty_frz_tuple, ty_frz_list, tq_int, tq_bool, tq_str, tq_tuple, tq_list, slotK, negK, isNK, notNK, isN_non, isN_int, isN_bl, isN_str, isN_tup, isN_ref, andK, orK, truK, blK, intK, binD, intD, cmpD, icmpD, bifD, asgK, bindTg, bindTgs, tupK, lstK, isiK, bmK, fldK, startE, List.map_cons, List.map_nil, List.length_cons, List.length_nil, List.replicate_succ, List.replicate_zero, List.cons_append, List.nil_append, List.getElem?_cons_zero, List.getElem?_cons_succ, List.getElem?_nil, List.set_cons_zero, List.set_cons_succ, Nat.reduceSub, Nat.reduceAdd, Nat.reduceLT, if_true, if_false, reduceIte, Bool.not_true, Bool.not_false, reduceCtorEq, allD_ref (get_push _ _)]
    have hg2 : Gr h (h' ++ [.lst ((w.cps.toList.map dg).map D.bl)]) := hg.trans (Gr.push _ _)
    generalize h' ++ [.lst ((w.cps.toList.map dg).map D.bl)] = h2 at hg2
    obtain ⟨c, r, hw⟩ : ∃ c r, w.cps.toList = c :: r := by
      cases hh : w.cps.toList with
      | nil => exact absurd hh e'
      | cons c r => exact ⟨c, r, rfl⟩
    have h0 : w.cps[0]? = some c := by rw [← Array.getElem?_toList, hw]; rfl
    cases hd : allDg w with
    | false =>
      have hd' : (List.map dg w.cps.toList).all id = false := hd
      simp only [hd', Bool.and_eq_true, Bool.or_eq_true, and_true, true_and, or_true, true_or, and_self, Int.reduceLE, Int.reduceLT, Int.reduceAbs, Nat.reducePow, Int.reduceToNat, Int.reducePow, Option.map_some, Option.map_none, beq_iff_eq, decide_eq_true_eq, bind_ok, toS_ok, lift_some, wp_ok, wp_bind, wp_lift_some, wp_ite, sp_toS, sp_ok, sp_ite, seqQ_nx, seqQ_rt, seqQ_bk, seqQ_ct, calQ_nx, calQ_rt, exs_nil, ex_asg, ex_fst, ex_ixs, ex_exp, ex_ret, ex_retn, ex_ife, ex_rai, ex_pass, ex_brk, ex_cont, ev_slot, ev_int, ev_str, ev_bl, ev_non, ev_con, ev_bin, ev_neg, ev_not, ev_and, ev_or, ev_isN, ev_notN, ev_cmp, ev_chn, ev_ite, ev_tup, ev_lst, ev_ix, ev_sl, ev_call, ev_mk, ev_meth, ev_bif, ev_bm, ev_isi, ev_fld, ev_xf, evT_bif, evT_slot, evT_call, evT_meth, evT_isi, evT_ix, evT_fld, evT_bl, tru_bl, evT_not, evT_and, evT_or, evT_cmp, evT_chn, evT_isN, evT_notN, evC_no, evC_so, evo_no, evo_so, evs_nil, evs_cons, evIt_seq, evIt_rng1, evIt_rng2, evIt_zip, eqD_int, at0, at1, at2, at3, addD_int, if_tt, if_ff, tysD, ty_int_int, ty_int_bool, ty_int_str, ty_int_tuple, ty_int_list, ty_bl_int, ty_bl_bool, ty_bl_str, ty_bl_tuple, ty_bl_list, ty_str_int, ty_str_bool, ty_str_str, ty_str_tuple, ty_str_list, ty_tup_int, ty_tup_bool, ty_tup_str, ty_tup_tuple, ty_tup_list, ty_non_int, ty_non_bool, ty_non_str, ty_non_tuple, ty_non_list, ty_frz_int, ty_frz_bool, ty_frz_str, ty_frz_tuple, ty_frz_list, tq_int, tq_bool, tq_str, tq_tuple, tq_list, slotK, negK, isNK, notNK, isN_non, isN_int, isN_bl, isN_str, isN_tup, isN_ref, andK, orK, truK, blK, intK, binD, intD, cmpD, icmpD, bifD, asgK, bindTg, bindTgs, tupK, lstK, isiK, bmK, fldK, startE, List.map_cons, List.map_nil, List.length_cons, List.length_nil, List.replicate_succ, List.replicate_zero, List.cons_append, List.nil_append, List.getElem?_cons_zero, List.getElem?_cons_succ, List.getElem?_nil, List.set_cons_zero, List.set_cons_succ, Nat.reduceSub, Nat.reduceAdd, Nat.reduceLT, if_true, if_false, reduceIte, Bool.not_true, Bool.not_false, reduceCtorEq]
      refine sp_cons ?_
      simp only [Bool.and_eq_true, Bool.or_eq_true, and_true, true_and, or_true, true_or, and_self, Int.reduceLE, Int.reduceLT, Int.reduceAbs, Nat.reducePow, Int.reduceToNat, Int.reducePow, Option.map_some, Option.map_none, beq_iff_eq, decide_eq_true_eq, bind_ok, toS_ok, lift_some, wp_ok, wp_bind, wp_lift_some, wp_ite, sp_toS, sp_ok, sp_ite, seqQ_nx, seqQ_rt, seqQ_bk, seqQ_ct, calQ_nx, calQ_rt, exs_nil, ex_asg, ex_fst, ex_ixs, ex_exp, ex_ret, ex_retn, ex_ife, ex_rai, ex_pass, ex_brk, ex_cont, ev_slot, ev_int, ev_str, ev_bl, ev_non, ev_con, ev_bin, ev_neg, ev_not, ev_and, ev_or, ev_isN, ev_notN, ev_cmp, ev_chn, ev_ite, ev_tup, ev_lst, ev_ix, ev_sl, ev_call, ev_mk, ev_meth, ev_bif, ev_bm, ev_isi, ev_fld, ev_xf, evT_bif, evT_slot, evT_call, evT_meth, evT_isi, evT_ix, evT_fld, evT_bl, tru_bl, evT_not, evT_and, evT_or, evT_cmp, evT_chn, evT_isN, evT_notN, evC_no, evC_so, evo_no, evo_so, evs_nil, evs_cons, evIt_seq, evIt_rng1, evIt_rng2, evIt_zip, eqD_int, at0, at1, at2, at3, addD_int, if_tt, if_ff, tysD, ty_int_int, ty_int_bool, ty_int_str, ty_int_tuple, ty_int_list, ty_bl_int, ty_bl_bool, ty_bl_str, ty_bl_tuple, ty_bl_list, ty_str_int, ty_str_bool, ty_str_str, ty_str_tuple, ty_str_list, ty_tup_int, ty_tup_bool, ty_tup_str, ty_tup_tuple, ty_tup_list, ty_non_int, ty_non_bool, ty_non_str, ty_non_tuple, ty_non_list, ty_frz_int, ty_frz_bool, ty_frz_str, ty_frz_tuple, ty_frz_list, tq_int, tq_bool, tq_str, tq_tuple, tq_list, slotK, negK, isNK, notNK, isN_non, isN_int, isN_bl, isN_str, isN_tup, isN_ref, andK, orK, truK, blK, intK, binD, intD, cmpD, icmpD, bifD, asgK, bindTg, bindTgs, tupK, lstK, isiK, bmK, fldK, startE, List.map_cons, List.map_nil, List.length_cons, List.length_nil, List.replicate_succ, List.replicate_zero, List.cons_append, List.nil_append, List.getElem?_cons_zero, List.getElem?_cons_succ, List.getElem?_nil, List.set_cons_zero, List.set_cons_succ, Nat.reduceSub, Nat.reduceAdd, Nat.reduceLT, if_true, if_false, reduceIte, Bool.not_true, Bool.not_false, reduceCtorEq]
      refine ⟨?_, hg2⟩
      unfold pn
      rw [if_neg e', if_pos hd]
    | true =>
      have hd' : (List.map dg w.cps.toList).all id = true := hd
      simp only [hd', Bool.and_eq_true, Bool.or_eq_true, and_true, true_and, or_true, true_or, and_self, Int.reduceLE, Int.reduceLT, Int.reduceAbs, Nat.reducePow, Int.reduceToNat, Int.reducePow, Option.map_some, Option.map_none, beq_iff_eq, decide_eq_true_eq, bind_ok, toS_ok, lift_some, wp_ok, wp_bind, wp_lift_some, wp_ite, sp_toS, sp_ok, sp_ite, seqQ_nx, seqQ_rt, seqQ_bk, seqQ_ct, calQ_nx, calQ_rt, exs_nil, ex_asg, ex_fst, ex_ixs, ex_exp, ex_ret, ex_retn, ex_ife, ex_rai, ex_pass, ex_brk, ex_cont, ev_slot, ev_int, ev_str, ev_bl, ev_non, ev_con, ev_bin, ev_neg, ev_not, ev_and, ev_or, ev_isN, ev_notN, ev_cmp, ev_chn, ev_ite, ev_tup, ev_lst, ev_ix, ev_sl, ev_call, ev_mk, ev_meth, ev_bif, ev_bm, ev_isi, ev_fld, ev_xf, evT_bif, evT_slot, evT_call, evT_meth, evT_isi, evT_ix, evT_fld, evT_bl, tru_bl, evT_not, evT_and, evT_or, evT_cmp, evT_chn, evT_isN, evT_notN, evC_no, evC_so, evo_no, evo_so, evs_nil, evs_cons, evIt_seq, evIt_rng1, evIt_rng2, evIt_zip, eqD_int, at0, at1, at2, at3, addD_int, if_tt, if_ff, tysD, ty_int_int, ty_int_bool, ty_int_str, ty_int_tuple, ty_int_list, ty_bl_int, ty_bl_bool, ty_bl_str, ty_bl_tuple, ty_bl_list, ty_str_int, ty_str_bool, ty_str_str, ty_str_tuple, ty_str_list, ty_tup_int, ty_tup_bool, ty_tup_str, ty_tup_tuple, ty_tup_list, ty_non_int, ty_non_bool, ty_non_str, ty_non_tuple, ty_non_list, ty_frz_int, ty_frz_bool, ty_frz_str, ty_frz_tuple, ty_frz_list, tq_int, tq_bool, tq_str, tq_tuple, tq_list, slotK, negK, isNK, notNK, isN_non, isN_int, isN_bl, isN_str, isN_tup, isN_ref, andK, orK, truK, blK, intK, binD, intD, cmpD, icmpD, bifD, asgK, bindTg, bindTgs, tupK, lstK, isiK, bmK, fldK, startE, List.map_cons, List.map_nil, List.length_cons, List.length_nil, List.replicate_succ, List.replicate_zero, List.cons_append, List.nil_append, List.getElem?_cons_zero, List.getElem?_cons_succ, List.getElem?_nil, List.set_cons_zero, List.set_cons_succ, Nat.reduceSub, Nat.reduceAdd, Nat.reduceLT, if_true, if_false, reduceIte, Bool.not_true, Bool.not_false, reduceCtorEq]
      refine sp_cons ?_
      simp only [Bool.and_eq_true, Bool.or_eq_true, and_true, true_and, or_true, true_or, and_self, Int.reduceLE, Int.reduceLT, Int.reduceAbs, Nat.reducePow, Int.reduceToNat, Int.reducePow, Option.map_some, Option.map_none, beq_iff_eq, decide_eq_true_eq, bind_ok, toS_ok, lift_some, wp_ok, wp_bind, wp_lift_some, wp_ite, sp_toS, sp_ok, sp_ite, seqQ_nx, seqQ_rt, seqQ_bk, seqQ_ct, calQ_nx, calQ_rt, exs_nil, ex_asg, ex_fst, ex_ixs, ex_exp, ex_ret, ex_retn, ex_ife, ex_rai, ex_pass, ex_brk, ex_cont, ev_slot, ev_int, ev_str, ev_bl, ev_non, ev_con, ev_bin, ev_neg, ev_not, ev_and, ev_or, ev_isN, ev_notN, ev_cmp, ev_chn, ev_ite, ev_tup, ev_lst, ev_ix, ev_sl, ev_call, ev_mk, ev_meth, ev_bif, ev_bm, ev_isi, ev_fld, ev_xf, evT_bif, evT_slot, evT_call, evT_meth, evT_isi, evT_ix, evT_fld, evT_bl, tru_bl, evT_not, evT_and, evT_or, evT_cmp, evT_chn, evT_isN, evT_notN, evC_no, evC_so, evo_no, evo_so, evs_nil, evs_cons, evIt_seq, evIt_rng1, evIt_rng2, evIt_zip, eqD_int, at0, at1, at2, at3, addD_int, if_tt, if_ff, tysD, ty_int_int, ty_int_bool, ty_int_str, ty_int_tuple, ty_int_list, ty_bl_int, ty_bl_bool, ty_bl_str, ty_bl_tuple, ty_bl_list, ty_str_int, ty_str_bool, ty_str_str, ty_str_tuple, ty_str_list, ty_tup_int, ty_tup_bool, ty_tup_str, ty_tup_tuple, ty_tup_list, ty_non_int, ty_non_bool, ty_non_str, ty_non_tuple, ty_non_list, ty_frz_int, ty_frz_bool, ty_frz_str, ty_frz_tuple, ty_frz_list, tq_int, tq_bool, tq_str, tq_tuple, tq_list, slotK, negK, isNK, notNK, isN_non, isN_int, isN_bl, isN_str, isN_tup, isN_ref, andK, orK, truK, blK, intK, binD, intD, cmpD, icmpD, bifD, asgK, bindTg, bindTgs, tupK, lstK, isiK, bmK, fldK, startE, List.map_cons, List.map_nil, List.length_cons, List.length_nil, List.replicate_succ, List.replicate_zero, List.cons_append, List.nil_append, List.getElem?_cons_zero, List.getElem?_cons_succ, List.getElem?_nil, List.set_cons_zero, List.set_cons_succ, Nat.reduceSub, Nat.reduceAdd, Nat.reduceLT, if_true, if_false, reduceIte, Bool.not_true, Bool.not_false, reduceCtorEq, eqD_str, ixD_str0 hw hz, lenD_str hz]
      have fin : (exs (cal tb k) tb (.cons (.ret (.bif .int (.cons (.slot 0) .nil))) .nil) none [some (.str w), none] h2).wp (calQ fun v h' => v = .int ((PySem.NumText.digitsVal w.cps.toList : Nat) : Int) ∧ Gr h h') fun _ _ _ => False := by
        refine sp_cons ?_
        simp only [Bool.and_eq_true, Bool.or_eq_true, and_true, true_and, or_true, true_or, and_self, Int.reduceLE, Int.reduceLT, Int.reduceAbs, Nat.reducePow, Int.reduceToNat, Int.reducePow, Option.map_some, Option.map_none, beq_iff_eq, decide_eq_true_eq, bind_ok, toS_ok, lift_some, wp_ok, wp_bind, wp_lift_some, wp_ite, sp_toS, sp_ok, sp_ite, seqQ_nx, seqQ_rt, seqQ_bk, seqQ_ct, calQ_nx, calQ_rt, exs_nil, ex_asg, ex_fst, ex_ixs, ex_exp, ex_ret, ex_retn, ex_ife, ex_rai, ex_pass, ex_brk, ex_cont, ev_slot, ev_int, ev_str, ev_bl, ev_non, ev_con, ev_bin, ev_neg, ev_not, ev_and, ev_or, ev_isN, ev_notN, ev_cmp, ev_chn, ev_ite, ev_tup, ev_lst, ev_ix, ev_sl, ev_call, ev_mk, ev_meth, ev_bif, ev_bm, ev_isi, ev_fld, ev_xf, evT_bif, evT_slot, evT_call, evT_meth, evT_isi, evT_ix, evT_fld, evT_bl, tru_bl, evT_not, evT_and, evT_or, evT_cmp, evT_chn, evT_isN, evT_notN, evC_no, evC_so, evo_no, evo_so, evs_nil, evs_cons, evIt_seq, evIt_rng1, evIt_rng2, evIt_zip, eqD_int, at0, at1, at2, at3, addD_int, if_tt, if_ff, tysD, ty_int_int, ty_int_bool, ty_int_str, ty_int_tuple, ty_int_list, ty_bl_int, ty_bl_bool, ty_bl_str, ty_bl_tuple, ty_bl_list, ty_str_int, ty_str_bool, ty_str_str, ty_str_tuple, ty_str_list, ty_tup_int, ty_tup_bool, ty_tup_str, ty_tup_tuple, ty_tup_list, ty_non_int, ty_non_bool, ty_non_str, ty_non_tuple, ty_non_list, ty_frz_int, ty_frz_bool, ty_frz_str, ty_frz_tuple, ty_frz_list, tq_int, tq_bool, tq_str, tq_tuple, tq_list, slotK, negK, isNK, notNK, isN_non, isN_int, isN_bl, isN_str, isN_tup, isN_ref, andK, orK, truK, blK, intK, binD, intD, cmpD, icmpD, bifD, asgK, bindTg, bindTgs, tupK, lstK, isiK, bmK, fldK, startE, List.map_cons, List.map_nil, List.length_cons, List.length_nil, List.replicate_succ, List.replicate_zero, List.cons_append, List.nil_append, List.getElem?_cons_zero, List.getElem?_cons_succ, List.getElem?_nil, List.set_cons_zero, List.set_cons_succ, Nat.reduceSub, Nat.reduceAdd, Nat.reduceLT, if_true, if_false, reduceIte, Bool.not_true, Bool.not_false, reduceCtorEq, int_of _ hz hd e']
        first
          | exact hg2
          | exact ⟨rfl, hg2⟩
      split
      · rename_i hl
        split
        · rename_i z
          refine sp_cons ?_
          simp only [Bool.and_eq_true, Bool.or_eq_true, and_true, true_and, or_true, true_or, and_self, Int.reduceLE, Int.reduceLT, Int.reduceAbs, Nat.reducePow, Int.reduceToNat, Int.reducePow, Option.map_some, Option.map_none, beq_iff_eq, decide_eq_true_eq, bind_ok, toS_ok, lift_some, wp_ok, wp_bind, wp_lift_some, wp_ite, sp_toS, sp_ok, sp_ite, seqQ_nx, seqQ_rt, seqQ_bk, seqQ_ct, calQ_nx, calQ_rt, exs_nil, ex_asg, ex_fst, ex_ixs, ex_exp, ex_ret, ex_retn, ex_ife, ex_rai, ex_pass, ex_brk, ex_cont, ev_slot, ev_int, ev_str, ev_bl, ev_non, ev_con, ev_bin, ev_neg, ev_not, ev_and, ev_or, ev_isN, ev_notN, ev_cmp, ev_chn, ev_ite, ev_tup, ev_lst, ev_ix, ev_sl, ev_call, ev_mk, ev_meth, ev_bif, ev_bm, ev_isi, ev_fld, ev_xf, evT_bif, evT_slot, evT_call, evT_meth, evT_isi, evT_ix, evT_fld, evT_bl, tru_bl, evT_not, evT_and, evT_or, evT_cmp, evT_chn, evT_isN, evT_notN, evC_no, evC_so, evo_no, evo_so, evs_nil, evs_cons, evIt_seq, evIt_rng1, evIt_rng2, evIt_zip, eqD_int, at0, at1, at2, at3, addD_int, if_tt, if_ff, tysD, ty_int_int, ty_int_bool, ty_int_str, ty_int_tuple, ty_int_list, ty_bl_int, ty_bl_bool, ty_bl_str, ty_bl_tuple, ty_bl_list, ty_str_int, ty_str_bool, ty_str_str, ty_str_tuple, ty_str_list, ty_tup_int, ty_tup_bool, ty_tup_str, ty_tup_tuple, ty_tup_list, ty_non_int, ty_non_bool, ty_non_str, ty_non_tuple, ty_non_list, ty_frz_int, ty_frz_bool, ty_frz_str, ty_frz_tuple, ty_frz_list, tq_int, tq_bool, tq_str, tq_tuple, tq_list, slotK, negK, isNK, notNK, isN_non, isN_int, isN_bl, isN_str, isN_tup, isN_ref, andK, orK, truK, blK, intK, binD, intD, cmpD, icmpD, bifD, asgK, bindTg, bindTgs, tupK, lstK, isiK, bmK, fldK, startE, List.map_cons, List.map_nil, List.length_cons, List.length_nil, List.replicate_succ, List.replicate_zero, List.cons_append, List.nil_append, List.getElem?_cons_zero, List.getElem?_cons_succ, List.getElem?_nil, List.set_cons_zero, List.set_cons_succ, Nat.reduceSub, Nat.reduceAdd, Nat.reduceLT, if_true, if_false, reduceIte, Bool.not_true, Bool.not_false, reduceCtorEq]
          refine ⟨?_, hg2⟩
          unfold pn
          rw [if_neg e', if_neg (by rw [hd]; decide), if_pos ⟨by rw [h0, one0.mp z], by omega⟩]
        · rename_i z
          refine sp_mono fin (fun f h3 q => ?_) fun _ _ _ z => z
          have e0 : pn w = .int ((PySem.NumText.digitsVal w.cps.toList : Nat) : Int) := by
            unfold pn
            rw [if_neg e', if_neg (by rw [hd]; decide), if_neg (by rw [h0]; rintro ⟨y, _⟩; exact z (one0.mpr (Option.some.inj y)))]
          rw [e0]; exact q
      · rename_i hl
        refine sp_mono fin (fun f h3 q => ?_) fun _ _ _ z => z
        have e0 : pn w = .int ((PySem.NumText.digitsVal w.cps.toList : Nat) : Int) := by
          unfold pn
          rw [if_neg e', if_neg (by rw [hd]; decide), if_neg (by rintro ⟨_, y⟩; omega)]
        rw [e0]; exact q
end MPk77

set_option Elab.async false
set_option linter.all false
set_option maxRecDepth 100000
set_option autoImplicit false
set_option maxHeartbeats 8000000
namespace MPk77
open PySem MP
theorem spl_small (S : List Nat) : ∀ (k : Nat) (acc l p : List Nat), p ∈ TL.spl S k acc l → p.length ≤ acc.length + l.length
  | k, acc, [], p, h => by
    rw [TL.spl_nil] at h
    have : p = acc := by simpa using h
    rw [this]; simp
  | 0, acc, c :: r, p, h => by
    unfold TL.spl at h
    split at h
    · rcases List.mem_cons.mp h with h | h
      · rw [h]; simp
      · have := spl_small S _ [] r p h
        simp at this ⊢
        omega
    · have := spl_small S 0 (acc ++ [c]) r p h
      simp at this ⊢
      omega
  | k + 1, acc, c :: r, p, h => by
    have := spl_small S k acc r p h
    simp at this ⊢
    omega
theorem split_small {w p : Str} (h : p ∈ Txt.split w ".") : p.length ≤ w.length := by
  have e := TL.split_spl w "." (by decide +kernel) (TL.kind_ok (by decide +kernel))
  have hm : TL.tl p ∈ (Txt.split w ".").map TL.tl := List.mem_map_of_mem h
  rw [e] at hm
  have := spl_small _ _ _ _ _ hm
  simpa [TL.tl, Str.length] using this
def gP : D → D
  | .str s => pn s
  | d => d
/-- what a text denotes -/
def pns (w : Str) : List D := (Txt.split w ".").map pn
def pp (w : Str) : D := if (pns w).any isNon then .non else .tup (pns w)
def flatN (d : D) : Prop := d = .non ∨ ∃ i, d = .int i
theorem pn_flat (w : Str) : flatN (pn w) := by
  unfold pn flatN
  split
  · exact .inl rfl
  split
  · exact .inl rfl
  split
  · exact .inl rfl
  exact .inr ⟨_, rfl⟩
theorem pns_flat {w : Str} : ∀ d ∈ pns w, flatN d := fun d hd => by
  obtain ⟨s, _, rfl⟩ := List.mem_map.mp hd
  exact pn_flat s
def toPd : D → PyData
  | .int i => .int i
  | _ => .none
theorem pds_flat {h : Hh} : ∀ {l : List D}, (∀ d ∈ l, flatN d) → pds h 59 l = some (l.map toPd)
  | [], _ => by unfold pds; rfl
  | d :: l, hf => by
    have hd := hf d List.mem_cons_self
    have e1 : pd h 59 d = some (toPd d) := by
      rcases hd with rfl | ⟨i, rfl⟩ <;> (unfold pd; rfl)
    unfold pds
    rw [e1, pds_flat fun x hx => hf x (List.mem_cons_of_mem _ hx)]
    rfl
theorem lay_flat : ∀ {l : List D}, PyData.canLayAll0 (l.map toPd) = true
  | [] => rfl
  | d :: l => by
    show (PyData.canLay0 (toPd d) && PyData.canLayAll0 (l.map toPd)) = true
    rw [lay_flat]
    cases d <;> rfl
theorem dep_flat : ∀ {l : List D}, PyData.depthAll (l.map toPd) = 0 ∨ PyData.depthAll (l.map toPd) ≤ 1
  | [] => .inl rfl
  | d :: l => by
    right
    have e : PyData.depthAll ((d :: l).map toPd) = max (PyData.depth (toPd d)) (PyData.depthAll (l.map toPd)) := rfl
    have h0 : PyData.depth (toPd d) ≤ 1 := by cases d <;> exact Nat.zero_le 1
    rw [e]
    rcases @dep_flat l with h | h <;> omega
theorem inD_non {h : Hh} {n : Nat} {l : List D} (e : h[n]? = some (.lst l)) (hf : ∀ d ∈ l, flatN d) : inD h .non (.ref n) = some (l.any isNon) := by
  unfold inD lstD
  dsimp only
  rw [e]
  dsimp only
  rw [pds_flat hf]
  have e1 : pd h 60 .non = some .none := by unfold pd; rfl
  rw [e1]
  dsimp only
  have e2 : SeqAt.shaped (.list (l.map toPd)) = true := by
    unfold SeqAt.shaped
    rw [Bool.and_eq_true, decide_eq_true_eq]
    refine ⟨lay_flat, ?_⟩
    have e : PyData.depth (.list (l.map toPd)) = PyData.depthAll (l.map toPd) + 1 := rfl
    rw [e]
    rcases @dep_flat l with h | h <;> omega
  rw [e2, show SeqAt.shaped PyData.none = true from rfl]
  simp only [Bool.and_self, if_true]
  congr 1
  rw [List.any_map]
  clear e e2 e1
  induction l with
  | nil => rfl
  | cons d l ih =>
    rw [List.any_cons, List.any_cons, ih fun x hx => hf x (List.mem_cons_of_mem _ hx)]
    congr 1
    rcases hf d List.mem_cons_self with rfl | ⟨i, rfl⟩ <;> rfl
theorem tupleOf_ref {h : Hh} {n : Nat} {l : List D} (e : h[n]? = some (.lst l)) : tupleOfD [.ref n] h = .ok (.tup l) h := by
  unfold tupleOfD seqD
  dsimp only
  rw [e]
theorem split_dot {h : Hh} {w : Str} (hz : w.length ≤ 640) : splitD (.str w) [.str "."] h = .ok (.ref h.length) (h ++ [.lst ((Txt.split w ".").map .str)]) := by
  unfold splitD
  dsimp only
  rw [if_pos]
  rw [Bool.and_eq_true]
  exact ⟨by decide +kernel, decide_eq_true (Nat.le_trans (Nat.add_le_add_right hz 2) (by decide))⟩
theorem parse_positions_spec {k : Nat} {h : Hh} {w : Str} (hz : w.length ≤ 640) : (cal tb (k + 2) 180 [.str w] h).wp (fun v h' => v = pp w ∧ Gr h h') (fun _ _ => False) := by
  refine cal_wp (fd := d_parse_positions) rfl rfl ?_
  unfold d_parse_positions b_parse_positions
  refine sp_cons ?_
  simp only [Bool.and_eq_true, Bool.or_eq_true, and_true, true_and, or_true, true_or, and_self, Int.reduceLE, Int.reduceLT, Int.reduceAbs, Nat.reducePow, Int.reduceToNat, Int.reducePow, Option.map_some, Option.map_none, beq_iff_eq, decide_eq_true_eq, bind_ok, toS_ok, lift_some, wp_ok, wp_bind, wp_lift_some, wp_ite, sp_toS, sp_ok, sp_ite, seqQ_nx, seqQ_rt, seqQ_bk, seqQ_ct, calQ_nx, calQ_rt, exs_nil, ex_asg, ex_fst, ex_ixs, ex_exp, ex_ret, ex_retn, ex_ife, ex_rai, ex_pass, ex_brk, ex_cont, ev_slot, ev_int, ev_str, ev_bl, ev_non, ev_con, ev_bin, ev_neg, ev_not, ev_and, ev_or, ev_isN, ev_notN, ev_cmp, ev_chn, ev_ite, ev_tup, ev_lst, ev_ix, ev_sl, ev_call, ev_mk, ev_meth, ev_bif, ev_bm, ev_isi, ev_fld, ev_xf, evT_bif, evT_slot, evT_call, evT_meth, evT_isi, evT_ix, evT_fld, evT_bl, tru_bl, evT_not, evT_and, evT_or, evT_cmp, evT_chn, evT_isN, evT_notN, evC_no, evC_so, evo_no, evo_so, evs_nil, evs_cons, evIt_seq, evIt_rng1, evIt_rng2, evIt_zip, eqD_int, at0, at1, at2, at3, addD_int, if_tt, if_ff, tysD, ty_int_int, ty_int_bool, ty_int_str, ty_int_tuple, ty_int_list, ty_bl_int, ty_bl_bool, ty_bl_str, ty_bl_tuple, ty_bl_list, ty_str_int, ty_str_bool, ty_str_str, ty_str_tuple, ty_str_list, ty_tup_int, ty_tup_bool, ty_tup_str, ty_tup_tuple, ty_tup_list, ty_non_int, ty_non_bool, ty_non_str, ty_non_tuple, ty_non_list, ty_frz_int, ty_frz_bool, ty_frz_str, ty_frz_tuple, ty_frz_list, tq_int, tq_bool, tq_str, tq_tuple, tq_list, slotK, negK, isNK, notNK, isN_non, isN_int, isN_bl, isN_str, isN_tup, isN_ref, andK, orK, truK, blK, intK, binD, intD, cmpD, icmpD, bifD, asgK, bindTg, bindTgs, tupK, lstK, isiK, bmK, fldK, startE, List.map_cons, List.map_nil, List.length_cons, List.length_nil, List.replicate_succ, List.replicate_zero, List.cons_append, List.nil_append, List.getElem?_cons_zero, List.getElem?_cons_succ, List.getElem?_nil, List.set_cons_zero, List.set_cons_succ, Nat.reduceSub, Nat.reduceAdd, Nat.reduceLT, if_true, if_false, reduceIte, Bool.not_true, Bool.not_false, reduceCtorEq, ev_lc_wp, bmOk, isStrD, bmD, split_dot hz, itSeq_ref (get_push _ _)]
  refine lc_map ((Txt.split w ".").map D.str) gP (h ++ [.lst ((Txt.split w ".").map .str)]) rfl (by rw [List.length_map]; exact Nat.le_trans (PyProof.Rows.split_le w ".") (by show w.length + 2 ≤ 16777216; omega)) (fun i h' hg => lstNx_gr (get_push _ _) hg i) (fun i x h' hx hg => ?_) (fun h' hg => ?_)
  · rw [List.getElem?_map] at hx
    obtain ⟨p, hp, rfl⟩ := Option.map_eq_some_iff.mp hx
    have hp2 := List.mem_of_getElem? hp
    simp only [Bool.and_eq_true, Bool.or_eq_true, and_true, true_and, or_true, true_or, and_self, Int.reduceLE, Int.reduceLT, Int.reduceAbs, Nat.reducePow, Int.reduceToNat, Int.reducePow, Option.map_some, Option.map_none, beq_iff_eq, decide_eq_true_eq, bind_ok, toS_ok, lift_some, wp_ok, wp_bind, wp_lift_some, wp_ite, sp_toS, sp_ok, sp_ite, seqQ_nx, seqQ_rt, seqQ_bk, seqQ_ct, calQ_nx, calQ_rt, exs_nil, ex_asg, ex_fst, ex_ixs, ex_exp, ex_ret, ex_retn, ex_ife, ex_rai, ex_pass, ex_brk, ex_cont, ev_slot, ev_int, ev_str, ev_bl, ev_non, ev_con, ev_bin, ev_neg, ev_not, ev_and, ev_or, ev_isN, ev_notN, ev_cmp, ev_chn, ev_ite, ev_tup, ev_lst, ev_ix, ev_sl, ev_call, ev_mk, ev_meth, ev_bif, ev_bm, ev_isi, ev_fld, ev_xf, evT_bif, evT_slot, evT_call, evT_meth, evT_isi, evT_ix, evT_fld, evT_bl, tru_bl, evT_not, evT_and, evT_or, evT_cmp, evT_chn, evT_isN, evT_notN, evC_no, evC_so, evo_no, evo_so, evs_nil, evs_cons, evIt_seq, evIt_rng1, evIt_rng2, evIt_zip, eqD_int, at0, at1, at2, at3, addD_int, if_tt, if_ff, tysD, ty_int_int, ty_int_bool, ty_int_str, ty_int_tuple, ty_int_list, ty_bl_int, ty_bl_bool, ty_bl_str, ty_bl_tuple, ty_bl_list, ty_str_int, ty_str_bool, ty_str_str, ty_str_tuple, ty_str_list, ty_tup_int, ty_tup_bool, ty_tup_str, ty_tup_tuple, ty_tup_list, ty_non_int, ty_non_bool, ty_non_str, ty_non_tuple, ty_non_list, ty_frz_int, ty_frz_bool, ty_frz_str, ty_frz_tuple, ty_frz_list, tq_int, tq_bool, tq_str, tq_tuple, tq_list, slotK, negK, isNK, notNK, isN_non, isN_int, isN_bl, isN_str, isN_tup, isN_ref, andK, orK, truK, blK, intK, binD, intD, cmpD, icmpD, bifD, asgK, bindTg, bindTgs, tupK, lstK, isiK, bmK, fldK, startE, List.map_cons, List.map_nil, List.length_cons, List.length_nil, List.replicate_succ, List.replicate_zero, List.cons_append, List.nil_append, List.getElem?_cons_zero, List.getElem?_cons_succ, List.getElem?_nil, List.set_cons_zero, List.set_cons_succ, Nat.reduceSub, Nat.reduceAdd, Nat.reduceLT, if_true, if_false, reduceIte, Bool.not_true, Bool.not_false, reduceCtorEq, lcTurn, wipeE]
    exact wp_mono (parse_number_spec (Nat.le_trans (split_small hp2) hz)) (fun v h2 ⟨e, g⟩ => ⟨by rw [e]; rfl, g⟩) fun _ _ z => z
  · have e1 : ((Txt.split w ".").map D.str).map gP = pns w := by
      unfold pns
      rw [List.map_map]
      rfl
    rw [e1]
    have g2 : Gr h (h' ++ [.lst (pns w)]) := ((Gr.push h _).trans hg).trans (Gr.push _ _)
    refine sp_cons ?_
    simp only [Bool.and_eq_true, Bool.or_eq_true, and_true, true_and, or_true, true_or, and_self, Int.reduceLE, Int.reduceLT, Int.reduceAbs, Nat.reducePow, Int.reduceToNat, Int.reducePow, Option.map_some, Option.map_none, beq_iff_eq, decide_eq_true_eq, bind_ok, toS_ok, lift_some, wp_ok, wp_bind, wp_lift_some, wp_ite, sp_toS, sp_ok, sp_ite, seqQ_nx, seqQ_rt, seqQ_bk, seqQ_ct, calQ_nx, calQ_rt, exs_nil, ex_asg, ex_fst, ex_ixs, ex_exp, ex_ret, ex_retn, ex_ife, ex_rai, ex_pass, ex_brk, ex_cont, ev_slot, ev_int, ev_str, ev_bl, ev_non, ev_con, ev_bin, ev_neg, ev_not, ev_and, ev_or, ev_isN, ev_notN, ev_cmp, ev_chn, ev_ite, ev_tup, ev_lst, ev_ix, ev_sl, ev_call, ev_mk, ev_meth, ev_bif, ev_bm, ev_isi, ev_fld, ev_xf, evT_bif, evT_slot, evT_call, evT_meth, evT_isi, evT_ix, evT_fld, evT_bl, tru_bl, evT_not, evT_and, evT_or, evT_cmp, evT_chn, evT_isN, evT_notN, evC_no, evC_so, evo_no, evo_so, evs_nil, evs_cons, evIt_seq, evIt_rng1, evIt_rng2, evIt_zip, eqD_int, at0, at1, at2, at3, addD_int, if_tt, if_ff, tysD, ty_int_int, ty_int_bool, ty_int_str, ty_int_tuple, ty_int_list, ty_bl_int, ty_bl_bool, ty_bl_str, ty_bl_tuple, ty_bl_list, ty_str_int, ty_str_bool, ty_str_str, ty_str_tuple, ty_str_list, ty_tup_int, ty_tup_bool, ty_tup_str, ty_tup_tuple, ty_tup_list, ty_non_int, ty_non_bool, ty_non_str, ty_non_tuple, ty_non_list, ty_frz_int, ty_frz_bool, ty_frz_str, ty_frz_tuple, ty_frz_list, tq_int, tq_bool, tq_str, tq_tuple, tq_list, slotK, negK, isNK, notNK, isN_non, isN_int, isN_bl, isN_str, isN_tup, isN_ref, andK, orK, truK, blK, intK, binD, intD, cmpD, icmpD, bifD, asgK, bindTg, bindTgs, tupK, lstK, isiK, bmK, fldK, startE, List.map_cons, List.map_nil, List.length_cons, List.length_nil, List.replicate_succ, List.replicate_zero, List.cons_append, List.nil_append, List.getElem?_cons_zero, List.getElem?_cons_succ, List.getElem?_nil, List.set_cons_zero, List.set_cons_succ, Nat.reduceSub, Nat.reduceAdd, Nat.reduceLT, if_true, if_false, reduceIte, Bool.not_true, Bool.not_false, reduceCtorEq, inD_non (get_push _ _) pns_flat, tupleOf_ref (get_push _ _)]
    unfold pp
    split
    · rename_i c
      exact ⟨rfl, g2⟩
    · rename_i c
      exact ⟨rfl, g2⟩
end MPk77

set_option Elab.async false
set_option linter.all false
set_option maxRecDepth 100000
set_option autoImplicit false
set_option maxHeartbeats 8000000
namespace MPk77
open PySem MP
theorem law_parse_positions_spec {k : Nat} {h : Hh} {w : Str} (hz : w.length ≤ 640) : (cal tb (k + 2) 1004 [.str w] h).wp (fun v h' => v = pp w ∧ Gr h h') (fun _ _ => False) := by
  refine cal_wp (fd := d__law_parse_positions) rfl rfl ?_
  unfold d__law_parse_positions b__law_parse_positions
  refine sp_cons ?_
  simp only [Bool.and_eq_true, Bool.or_eq_true, and_true, true_and, or_true, true_or, and_self, Int.reduceLE, Int.reduceLT, Int.reduceAbs, Nat.reducePow, Int.reduceToNat, Int.reducePow, Option.map_some, Option.map_none, beq_iff_eq, decide_eq_true_eq, bind_ok, toS_ok, lift_some, wp_ok, wp_bind, wp_lift_some, wp_ite, sp_toS, sp_ok, sp_ite, seqQ_nx, seqQ_rt, seqQ_bk, seqQ_ct, calQ_nx, calQ_rt, exs_nil, ex_asg, ex_fst, ex_ixs, ex_exp, ex_ret, ex_retn, ex_ife, ex_rai, ex_pass, ex_brk, ex_cont, ev_slot, ev_int, ev_str, ev_bl, ev_non, ev_con, ev_bin, ev_neg, ev_not, ev_and, ev_or, ev_isN, ev_notN, ev_cmp, ev_chn, ev_ite, ev_tup, ev_lst, ev_ix, ev_sl, ev_call, ev_mk, ev_meth, ev_bif, ev_bm, ev_isi, ev_fld, ev_xf, evT_bif, evT_slot, evT_call, evT_meth, evT_isi, evT_ix, evT_fld, evT_bl, tru_bl, evT_not, evT_and, evT_or, evT_cmp, evT_chn, evT_isN, evT_notN, evC_no, evC_so, evo_no, evo_so, evs_nil, evs_cons, evIt_seq, evIt_rng1, evIt_rng2, evIt_zip, eqD_int, at0, at1, at2, at3, addD_int, if_tt, if_ff, tysD, ty_int_int, ty_int_bool, ty_int_str, ty_int_tuple, ty_int_list, ty_bl_int, ty_bl_bool, ty_bl_str, ty_bl_tuple, ty_bl_list, ty_str_int, ty_str_bool, ty_str_str, ty_str_tuple, ty_str_list, ty_tup_int, ty_tup_bool, ty_tup_str, ty_tup_tuple, ty_tup_list, ty_non_int, ty_non_bool, ty_non_str, ty_non_tuple, ty_non_list, ty_frz_int, ty_frz_bool, ty_frz_str, ty_frz_tuple, ty_frz_list, tq_int, tq_bool, tq_str, tq_tuple, tq_list, slotK, negK, isNK, notNK, isN_non, isN_int, isN_bl, isN_str, isN_tup, isN_ref, andK, orK, truK, blK, intK, binD, intD, cmpD, icmpD, bifD, asgK, bindTg, bindTgs, tupK, lstK, isiK, bmK, fldK, startE, List.map_cons, List.map_nil, List.length_cons, List.length_nil, List.replicate_succ, List.replicate_zero, List.cons_append, List.nil_append, List.getElem?_cons_zero, List.getElem?_cons_succ, List.getElem?_nil, List.set_cons_zero, List.set_cons_succ, Nat.reduceSub, Nat.reduceAdd, Nat.reduceLT, if_true, if_false, reduceIte, Bool.not_true, Bool.not_false, reduceCtorEq, ev_lc_wp, bmOk, isStrD, bmD, split_dot hz, itSeq_ref (get_push _ _)]
  refine lc_map ((Txt.split w ".").map D.str) gP (h ++ [.lst ((Txt.split w ".").map .str)]) rfl (by rw [List.length_map]; exact Nat.le_trans (PyProof.Rows.split_le w ".") (by show w.length + 2 ≤ 16777216; omega)) (fun i h' hg => lstNx_gr (get_push _ _) hg i) (fun i x h' hx hg => ?_) (fun h' hg => ?_)
  · rw [List.getElem?_map] at hx
    obtain ⟨p, hp, rfl⟩ := Option.map_eq_some_iff.mp hx
    have hp2 := List.mem_of_getElem? hp
    simp only [Bool.and_eq_true, Bool.or_eq_true, and_true, true_and, or_true, true_or, and_self, Int.reduceLE, Int.reduceLT, Int.reduceAbs, Nat.reducePow, Int.reduceToNat, Int.reducePow, Option.map_some, Option.map_none, beq_iff_eq, decide_eq_true_eq, bind_ok, toS_ok, lift_some, wp_ok, wp_bind, wp_lift_some, wp_ite, sp_toS, sp_ok, sp_ite, seqQ_nx, seqQ_rt, seqQ_bk, seqQ_ct, calQ_nx, calQ_rt, exs_nil, ex_asg, ex_fst, ex_ixs, ex_exp, ex_ret, ex_retn, ex_ife, ex_rai, ex_pass, ex_brk, ex_cont, ev_slot, ev_int, ev_str, ev_bl, ev_non, ev_con, ev_bin, ev_neg, ev_not, ev_and, ev_or, ev_isN, ev_notN, ev_cmp, ev_chn, ev_ite, ev_tup, ev_lst, ev_ix, ev_sl, ev_call, ev_mk, ev_meth, ev_bif, ev_bm, ev_isi, ev_fld, ev_xf, evT_bif, evT_slot, evT_call, evT_meth, evT_isi, evT_ix, evT_fld, evT_bl, tru_bl, evT_not, evT_and, evT_or, evT_cmp, evT_chn, evT_isN, evT_notN, evC_no, evC_so, evo_no, evo_so, evs_nil, evs_cons, evIt_seq, evIt_rng1, evIt_rng2, evIt_zip, eqD_int, at0, at1, at2, at3, addD_int, if_tt, if_ff, tysD, ty_int_int, ty_int_bool, ty_int_str, ty_int_tuple, ty_int_list, ty_bl_int, ty_bl_bool, ty_bl_str, ty_bl_tuple, ty_bl_list, ty_str_int, ty_str_bool, ty_str_str, ty_str_tuple, ty_str_list, ty_tup_int, ty_tup_bool, ty_tup_str, ty_tup_tuple, ty_tup_list, ty_non_int, ty_non_bool, ty_non_str, ty_non_tuple, ty_non_list, ty_frz_int, ty_frz_bool, ty_frz_str, ty_frz_tuple, ty_frz_list, tq_int, tq_bool, tq_str, tq_tuple, tq_list, slotK, negK, isNK, notNK, isN_non, isN_int, isN_bl, isN_str, isN_tup, isN_ref, andK, orK, truK, blK, intK, binD, intD, cmpD, icmpD, bifD, asgK, bindTg, bindTgs, tupK, lstK, isiK, bmK, fldK, startE, List.map_cons, List.map_nil, List.length_cons, List.length_nil, List.replicate_succ, List.replicate_zero, List.cons_append, List.nil_append, List.getElem?_cons_zero, List.getElem?_cons_succ, List.getElem?_nil, List.set_cons_zero, List.set_cons_succ, Nat.reduceSub, Nat.reduceAdd, Nat.reduceLT, if_true, if_false, reduceIte, Bool.not_true, Bool.not_false, reduceCtorEq, lcTurn, wipeE]
    exact wp_mono (law_parse_number_spec (Nat.le_trans (split_small hp2) hz)) (fun v h2 ⟨e, g⟩ => ⟨by rw [e]; rfl, g⟩) fun _ _ z => z
  · have e1 : ((Txt.split w ".").map D.str).map gP = pns w := by
      unfold pns
      rw [List.map_map]
      rfl
    rw [e1]
    have g2 : Gr h (h' ++ [.lst (pns w)]) := ((Gr.push h _).trans hg).trans (Gr.push _ _)
    refine sp_cons ?_
    simp only [Bool.and_eq_true, Bool.or_eq_true, and_true, true_and, or_true, true_or, and_self, Int.reduceLE, Int.reduceLT, Int.reduceAbs, Nat.reducePow, Int.reduceToNat, Int.reducePow, Option.map_some, Option.map_none, beq_iff_eq, decide_eq_true_eq, bind_ok, toS_ok, lift_some, wp_ok, wp_bind, wp_lift_some, wp_ite, sp_toS, sp_ok, sp_ite, seqQ_nx, seqQ_rt, seqQ_bk, seqQ_ct, calQ_nx, calQ_rt, exs_nil, ex_asg, ex_fst, ex_ixs, ex_exp, ex_ret, ex_retn, ex_ife, ex_rai, ex_pass, ex_brk, ex_cont, ev_slot, ev_int, ev_str, ev_bl, ev_non, ev_con, ev_bin, ev_neg, ev_not, ev_and, ev_or, ev_isN, ev_notN, ev_cmp, ev_chn, ev_ite, ev_tup, ev_lst, ev_ix, ev_sl, ev_call, ev_mk, ev_meth, ev_bif, ev_bm, ev_isi, ev_fld, ev_xf, evT_bif, evT_slot, evT_call, evT_meth, evT_isi, evT_ix, evT_fld, evT_bl, tru_bl, evT_not, evT_and, evT_or, evT_cmp, evT_chn, evT_isN, evT_notN, evC_no, evC_so, evo_no, evo_so, evs_nil, evs_cons, evIt_seq, evIt_rng1, evIt_rng2, evIt_zip, eqD_int, at0, at1, at2, at3, addD_int, if_tt, if_ff, tysD, ty_int_int, ty_int_bool, ty_int_str, ty_int_tuple, ty_int_list, ty_bl_int, ty_bl_bool, ty_bl_str, ty_bl_tuple, ty_bl_list, ty_str_int, ty_str_bool, ty_str_str, ty_str_tuple, ty_str_list, ty_tup_int, ty_tup_bool, ty_tup_str, ty_tup_tuple, ty_tup_list, ty_non_int, ty_non_bool, ty_non_str, ty_non_tuple, ty_non_list, ty_frz_int, ty_frz_bool, ty_frz_str, ty_frz_tuple, ty_frz_list, tq_int, tq_bool, tq_str, tq_tuple, tq_list, slotK, negK, isNK, notNK, isN_non, isN_int, isN_bl, isN_str, isN_tup, isN_ref, andK, orK, truK, blK, intK, binD, intD, cmpD, icmpD, bifD, asgK, bindTg, bindTgs, tupK, lstK, isiK, bmK, fldK, startE, List.map_cons, List.map_nil, List.length_cons, List.length_nil, List.replicate_succ, List.replicate_zero, List.cons_append, List.nil_append, List.getElem?_cons_zero, List.getElem?_cons_succ, List.getElem?_nil, List.set_cons_zero, List.set_cons_succ, Nat.reduceSub, Nat.reduceAdd, Nat.reduceLT, if_true, if_false, reduceIte, Bool.not_true, Bool.not_false, reduceCtorEq, inD_non (get_push _ _) pns_flat, tupleOf_ref (get_push _ _)]
    unfold pp
    split
    · refine sp_cons ?_
      simp only [Bool.and_eq_true, Bool.or_eq_true, and_true, true_and, or_true, true_or, and_self, Int.reduceLE, Int.reduceLT, Int.reduceAbs, Nat.reducePow, Int.reduceToNat, Int.reducePow, Option.map_some, Option.map_none, beq_iff_eq, decide_eq_true_eq, bind_ok, toS_ok, lift_some, wp_ok, wp_bind, wp_lift_some, wp_ite, sp_toS, sp_ok, sp_ite, seqQ_nx, seqQ_rt, seqQ_bk, seqQ_ct, calQ_nx, calQ_rt, exs_nil, ex_asg, ex_fst, ex_ixs, ex_exp, ex_ret, ex_retn, ex_ife, ex_rai, ex_pass, ex_brk, ex_cont, ev_slot, ev_int, ev_str, ev_bl, ev_non, ev_con, ev_bin, ev_neg, ev_not, ev_and, ev_or, ev_isN, ev_notN, ev_cmp, ev_chn, ev_ite, ev_tup, ev_lst, ev_ix, ev_sl, ev_call, ev_mk, ev_meth, ev_bif, ev_bm, ev_isi, ev_fld, ev_xf, evT_bif, evT_slot, evT_call, evT_meth, evT_isi, evT_ix, evT_fld, evT_bl, tru_bl, evT_not, evT_and, evT_or, evT_cmp, evT_chn, evT_isN, evT_notN, evC_no, evC_so, evo_no, evo_so, evs_nil, evs_cons, evIt_seq, evIt_rng1, evIt_rng2, evIt_zip, eqD_int, at0, at1, at2, at3, addD_int, if_tt, if_ff, tysD, ty_int_int, ty_int_bool, ty_int_str, ty_int_tuple, ty_int_list, ty_bl_int, ty_bl_bool, ty_bl_str, ty_bl_tuple, ty_bl_list, ty_str_int, ty_str_bool, ty_str_str, ty_str_tuple, ty_str_list, ty_tup_int, ty_tup_bool, ty_tup_str, ty_tup_tuple, ty_tup_list, ty_non_int, ty_non_bool, ty_non_str, ty_non_tuple, ty_non_list, ty_frz_int, ty_frz_bool, ty_frz_str, ty_frz_tuple, ty_frz_list, tq_int, tq_bool, tq_str, tq_tuple, tq_list, slotK, negK, isNK, notNK, isN_non, isN_int, isN_bl, isN_str, isN_tup, isN_ref, andK, orK, truK, blK, intK, binD, intD, cmpD, icmpD, bifD, asgK, bindTg, bindTgs, tupK, lstK, isiK, bmK, fldK, startE, List.map_cons, List.map_nil, List.length_cons, List.length_nil, List.replicate_succ, List.replicate_zero, List.cons_append, List.nil_append, List.getElem?_cons_zero, List.getElem?_cons_succ, List.getElem?_nil, List.set_cons_zero, List.set_cons_succ, Nat.reduceSub, Nat.reduceAdd, Nat.reduceLT, if_true, if_false, reduceIte, Bool.not_true, Bool.not_false, reduceCtorEq]
      first
        | exact g2
        | exact ⟨rfl, g2⟩
    · refine sp_cons ?_
      simp only [Bool.and_eq_true, Bool.or_eq_true, and_true, true_and, or_true, true_or, and_self, Int.reduceLE, Int.reduceLT, Int.reduceAbs, Nat.reducePow, Int.reduceToNat, Int.reducePow, Option.map_some, Option.map_none, beq_iff_eq, decide_eq_true_eq, bind_ok, toS_ok, lift_some, wp_ok, wp_bind, wp_lift_some, wp_ite, sp_toS, sp_ok, sp_ite, seqQ_nx, seqQ_rt, seqQ_bk, seqQ_ct, calQ_nx, calQ_rt, exs_nil, ex_asg, ex_fst, ex_ixs, ex_exp, ex_ret, ex_retn, ex_ife, ex_rai, ex_pass, ex_brk, ex_cont, ev_slot, ev_int, ev_str, ev_bl, ev_non, ev_con, ev_bin, ev_neg, ev_not, ev_and, ev_or, ev_isN, ev_notN, ev_cmp, ev_chn, ev_ite, ev_tup, ev_lst, ev_ix, ev_sl, ev_call, ev_mk, ev_meth, ev_bif, ev_bm, ev_isi, ev_fld, ev_xf, evT_bif, evT_slot, evT_call, evT_meth, evT_isi, evT_ix, evT_fld, evT_bl, tru_bl, evT_not, evT_and, evT_or, evT_cmp, evT_chn, evT_isN, evT_notN, evC_no, evC_so, evo_no, evo_so, evs_nil, evs_cons, evIt_seq, evIt_rng1, evIt_rng2, evIt_zip, eqD_int, at0, at1, at2, at3, addD_int, if_tt, if_ff, tysD, ty_int_int, ty_int_bool, ty_int_str, ty_int_tuple, ty_int_list, ty_bl_int, ty_bl_bool, ty_bl_str, ty_bl_tuple, ty_bl_list, ty_str_int, ty_str_bool, ty_str_str, ty_str_tuple, ty_str_list, ty_tup_int, ty_tup_bool, ty_tup_str, ty_tup_tuple, ty_tup_list, ty_non_int, ty_non_bool, ty_non_str, ty_non_tuple, ty_non_list, ty_frz_int, ty_frz_bool, ty_frz_str, ty_frz_tuple, ty_frz_list, tq_int, tq_bool, tq_str, tq_tuple, tq_list, slotK, negK, isNK, notNK, isN_non, isN_int, isN_bl, isN_str, isN_tup, isN_ref, andK, orK, truK, blK, intK, binD, intD, cmpD, icmpD, bifD, asgK, bindTg, bindTgs, tupK, lstK, isiK, bmK, fldK, startE, List.map_cons, List.map_nil, List.length_cons, List.length_nil, List.replicate_succ, List.replicate_zero, List.cons_append, List.nil_append, List.getElem?_cons_zero, List.getElem?_cons_succ, List.getElem?_nil, List.set_cons_zero, List.set_cons_succ, Nat.reduceSub, Nat.reduceAdd, Nat.reduceLT, if_true, if_false, reduceIte, Bool.not_true, Bool.not_false, reduceCtorEq, tupleOf_ref (get_push _ _)]
      first
        | exact g2
        | exact ⟨rfl, g2⟩
/-- parse_state of a text -/
theorem parse_state_str {k : Nat} {h : Hh} {w : Str} (hz : w.length ≤ 640) : (cal tb (k + 3) 182 [.str w] h).wp (fun v h' => v = pp w ∧ isNon (pp w) = false ∧ Gr h h') (fun e h' => e = ⟨22, [(49, .int 0)]⟩ ∧ isNon (pp w) = true ∧ Gr h h') := by
  refine cal_wp (fd := d_parse_state) rfl rfl ?_
  unfold d_parse_state b_parse_state
  refine sp_cons ?_
  simp only [Bool.and_eq_true, Bool.or_eq_true, and_true, true_and, or_true, true_or, and_self, Int.reduceLE, Int.reduceLT, Int.reduceAbs, Nat.reducePow, Int.reduceToNat, Int.reducePow, Option.map_some, Option.map_none, beq_iff_eq, decide_eq_true_eq, bind_ok, toS_ok, lift_some, wp_ok, wp_bind, wp_lift_some, wp_ite, sp_toS, sp_ok, sp_ite, seqQ_nx, seqQ_rt, seqQ_bk, seqQ_ct, calQ_nx, calQ_rt, exs_nil, ex_asg, ex_fst, ex_ixs, ex_exp, ex_ret, ex_retn, ex_ife, ex_rai, ex_pass, ex_brk, ex_cont, ev_slot, ev_int, ev_str, ev_bl, ev_non, ev_con, ev_bin, ev_neg, ev_not, ev_and, ev_or, ev_isN, ev_notN, ev_cmp, ev_chn, ev_ite, ev_tup, ev_lst, ev_ix, ev_sl, ev_call, ev_mk, ev_meth, ev_bif, ev_bm, ev_isi, ev_fld, ev_xf, evT_bif, evT_slot, evT_call, evT_meth, evT_isi, evT_ix, evT_fld, evT_bl, tru_bl, evT_not, evT_and, evT_or, evT_cmp, evT_chn, evT_isN, evT_notN, evC_no, evC_so, evo_no, evo_so, evs_nil, evs_cons, evIt_seq, evIt_rng1, evIt_rng2, evIt_zip, eqD_int, at0, at1, at2, at3, addD_int, if_tt, if_ff, tysD, ty_int_int, ty_int_bool, ty_int_str, ty_int_tuple, ty_int_list, ty_bl_int, ty_bl_bool, ty_bl_str, ty_bl_tuple, ty_bl_list, ty_str_int, ty_str_bool, ty_str_str, ty_str_tuple, ty_str_list, ty_tup_int, ty_tup_bool, ty_tup_str, ty_tup_tuple, ty_tup_list, ty_non_int, ty_non_bool, ty_non_str, ty_non_tuple, ty_non_list, ty_frz_int, ty_frz_bool, ty_frz_str, ty_frz_tuple, ty_frz_list, tq_int, tq_bool, tq_str, tq_tuple, tq_list, slotK, negK, isNK, notNK, isN_non, isN_int, isN_bl, isN_str, isN_tup, isN_ref, andK, orK, truK, blK, intK, binD, intD, cmpD, icmpD, bifD, asgK, bindTg, bindTgs, tupK, lstK, isiK, bmK, fldK, startE, List.map_cons, List.map_nil, List.length_cons, List.length_nil, List.replicate_succ, List.replicate_zero, List.cons_append, List.nil_append, List.getElem?_cons_zero, List.getElem?_cons_succ, List.getElem?_nil, List.set_cons_zero, List.set_cons_succ, Nat.reduceSub, Nat.reduceAdd, Nat.reduceLT, if_true, if_false, reduceIte, Bool.not_true, Bool.not_false, reduceCtorEq, tysD_1 (show tyD h (.str w) .str = some true from rfl)]
  refine wp_mono (parse_positions_spec hz) (fun v h' ⟨e, g⟩ => ?_) fun _ _ z => z.elim
  subst e
  refine sp_cons ?_
  simp only [Bool.and_eq_true, Bool.or_eq_true, and_true, true_and, or_true, true_or, and_self, Int.reduceLE, Int.reduceLT, Int.reduceAbs, Nat.reducePow, Int.reduceToNat, Int.reducePow, Option.map_some, Option.map_none, beq_iff_eq, decide_eq_true_eq, bind_ok, toS_ok, lift_some, wp_ok, wp_bind, wp_lift_some, wp_ite, sp_toS, sp_ok, sp_ite, seqQ_nx, seqQ_rt, seqQ_bk, seqQ_ct, calQ_nx, calQ_rt, exs_nil, ex_asg, ex_fst, ex_ixs, ex_exp, ex_ret, ex_retn, ex_ife, ex_rai, ex_pass, ex_brk, ex_cont, ev_slot, ev_int, ev_str, ev_bl, ev_non, ev_con, ev_bin, ev_neg, ev_not, ev_and, ev_or, ev_isN, ev_notN, ev_cmp, ev_chn, ev_ite, ev_tup, ev_lst, ev_ix, ev_sl, ev_call, ev_mk, ev_meth, ev_bif, ev_bm, ev_isi, ev_fld, ev_xf, evT_bif, evT_slot, evT_call, evT_meth, evT_isi, evT_ix, evT_fld, evT_bl, tru_bl, evT_not, evT_and, evT_or, evT_cmp, evT_chn, evT_isN, evT_notN, evC_no, evC_so, evo_no, evo_so, evs_nil, evs_cons, evIt_seq, evIt_rng1, evIt_rng2, evIt_zip, eqD_int, at0, at1, at2, at3, addD_int, if_tt, if_ff, tysD, ty_int_int, ty_int_bool, ty_int_str, ty_int_tuple, ty_int_list, ty_bl_int, ty_bl_bool, ty_bl_str, ty_bl_tuple, ty_bl_list, ty_str_int, ty_str_bool, ty_str_str, ty_str_tuple, ty_str_list, ty_tup_int, ty_tup_bool, ty_tup_str, ty_tup_tuple, ty_tup_list, ty_non_int, ty_non_bool, ty_non_str, ty_non_tuple, ty_non_list, ty_frz_int, ty_frz_bool, ty_frz_str, ty_frz_tuple, ty_frz_list, tq_int, tq_bool, tq_str, tq_tuple, tq_list, slotK, negK, isNK, notNK, isN_non, isN_int, isN_bl, isN_str, isN_tup, isN_ref, andK, orK, truK, blK, intK, binD, intD, cmpD, icmpD, bifD, asgK, bindTg, bindTgs, tupK, lstK, isiK, bmK, fldK, startE, List.map_cons, List.map_nil, List.length_cons, List.length_nil, List.replicate_succ, List.replicate_zero, List.cons_append, List.nil_append, List.getElem?_cons_zero, List.getElem?_cons_succ, List.getElem?_nil, List.set_cons_zero, List.set_cons_succ, Nat.reduceSub, Nat.reduceAdd, Nat.reduceLT, if_true, if_false, reduceIte, Bool.not_true, Bool.not_false, reduceCtorEq]
  split
  · rename_i c
    refine sp_cons ?_
    simp only [Bool.and_eq_true, Bool.or_eq_true, and_true, true_and, or_true, true_or, and_self, Int.reduceLE, Int.reduceLT, Int.reduceAbs, Nat.reducePow, Int.reduceToNat, Int.reducePow, Option.map_some, Option.map_none, beq_iff_eq, decide_eq_true_eq, bind_ok, toS_ok, lift_some, wp_ok, wp_bind, wp_lift_some, wp_ite, sp_toS, sp_ok, sp_ite, seqQ_nx, seqQ_rt, seqQ_bk, seqQ_ct, calQ_nx, calQ_rt, exs_nil, ex_asg, ex_fst, ex_ixs, ex_exp, ex_ret, ex_retn, ex_ife, ex_rai, ex_pass, ex_brk, ex_cont, ev_slot, ev_int, ev_str, ev_bl, ev_non, ev_con, ev_bin, ev_neg, ev_not, ev_and, ev_or, ev_isN, ev_notN, ev_cmp, ev_chn, ev_ite, ev_tup, ev_lst, ev_ix, ev_sl, ev_call, ev_mk, ev_meth, ev_bif, ev_bm, ev_isi, ev_fld, ev_xf, evT_bif, evT_slot, evT_call, evT_meth, evT_isi, evT_ix, evT_fld, evT_bl, tru_bl, evT_not, evT_and, evT_or, evT_cmp, evT_chn, evT_isN, evT_notN, evC_no, evC_so, evo_no, evo_so, evs_nil, evs_cons, evIt_seq, evIt_rng1, evIt_rng2, evIt_zip, eqD_int, at0, at1, at2, at3, addD_int, if_tt, if_ff, tysD, ty_int_int, ty_int_bool, ty_int_str, ty_int_tuple, ty_int_list, ty_bl_int, ty_bl_bool, ty_bl_str, ty_bl_tuple, ty_bl_list, ty_str_int, ty_str_bool, ty_str_str, ty_str_tuple, ty_str_list, ty_tup_int, ty_tup_bool, ty_tup_str, ty_tup_tuple, ty_tup_list, ty_non_int, ty_non_bool, ty_non_str, ty_non_tuple, ty_non_list, ty_frz_int, ty_frz_bool, ty_frz_str, ty_frz_tuple, ty_frz_list, tq_int, tq_bool, tq_str, tq_tuple, tq_list, slotK, negK, isNK, notNK, isN_non, isN_int, isN_bl, isN_str, isN_tup, isN_ref, andK, orK, truK, blK, intK, binD, intD, cmpD, icmpD, bifD, asgK, bindTg, bindTgs, tupK, lstK, isiK, bmK, fldK, startE, List.map_cons, List.map_nil, List.length_cons, List.length_nil, List.replicate_succ, List.replicate_zero, List.cons_append, List.nil_append, List.getElem?_cons_zero, List.getElem?_cons_succ, List.getElem?_nil, List.set_cons_zero, List.set_cons_succ, Nat.reduceSub, Nat.reduceAdd, Nat.reduceLT, if_true, if_false, reduceIte, Bool.not_true, Bool.not_false, reduceCtorEq, raiK]
    first
      | exact ⟨c, g⟩
      | exact ⟨rfl, c, g⟩
  · rename_i c
    refine sp_cons ?_
    simp only [Bool.and_eq_true, Bool.or_eq_true, and_true, true_and, or_true, true_or, and_self, Int.reduceLE, Int.reduceLT, Int.reduceAbs, Nat.reducePow, Int.reduceToNat, Int.reducePow, Option.map_some, Option.map_none, beq_iff_eq, decide_eq_true_eq, bind_ok, toS_ok, lift_some, wp_ok, wp_bind, wp_lift_some, wp_ite, sp_toS, sp_ok, sp_ite, seqQ_nx, seqQ_rt, seqQ_bk, seqQ_ct, calQ_nx, calQ_rt, exs_nil, ex_asg, ex_fst, ex_ixs, ex_exp, ex_ret, ex_retn, ex_ife, ex_rai, ex_pass, ex_brk, ex_cont, ev_slot, ev_int, ev_str, ev_bl, ev_non, ev_con, ev_bin, ev_neg, ev_not, ev_and, ev_or, ev_isN, ev_notN, ev_cmp, ev_chn, ev_ite, ev_tup, ev_lst, ev_ix, ev_sl, ev_call, ev_mk, ev_meth, ev_bif, ev_bm, ev_isi, ev_fld, ev_xf, evT_bif, evT_slot, evT_call, evT_meth, evT_isi, evT_ix, evT_fld, evT_bl, tru_bl, evT_not, evT_and, evT_or, evT_cmp, evT_chn, evT_isN, evT_notN, evC_no, evC_so, evo_no, evo_so, evs_nil, evs_cons, evIt_seq, evIt_rng1, evIt_rng2, evIt_zip, eqD_int, at0, at1, at2, at3, addD_int, if_tt, if_ff, tysD, ty_int_int, ty_int_bool, ty_int_str, ty_int_tuple, ty_int_list, ty_bl_int, ty_bl_bool, ty_bl_str, ty_bl_tuple, ty_bl_list, ty_str_int, ty_str_bool, ty_str_str, ty_str_tuple, ty_str_list, ty_tup_int, ty_tup_bool, ty_tup_str, ty_tup_tuple, ty_tup_list, ty_non_int, ty_non_bool, ty_non_str, ty_non_tuple, ty_non_list, ty_frz_int, ty_frz_bool, ty_frz_str, ty_frz_tuple, ty_frz_list, tq_int, tq_bool, tq_str, tq_tuple, tq_list, slotK, negK, isNK, notNK, isN_non, isN_int, isN_bl, isN_str, isN_tup, isN_ref, andK, orK, truK, blK, intK, binD, intD, cmpD, icmpD, bifD, asgK, bindTg, bindTgs, tupK, lstK, isiK, bmK, fldK, startE, List.map_cons, List.map_nil, List.length_cons, List.length_nil, List.replicate_succ, List.replicate_zero, List.cons_append, List.nil_append, List.getElem?_cons_zero, List.getElem?_cons_succ, List.getElem?_nil, List.set_cons_zero, List.set_cons_succ, Nat.reduceSub, Nat.reduceAdd, Nat.reduceLT, if_true, if_false, reduceIte, Bool.not_true, Bool.not_false, reduceCtorEq]
    first
      | exact ⟨rfl, by simpa using c, g⟩
      | exact ⟨by simpa using c, g⟩
theorem parse_state_no {k : Nat} {h : Hh} {d : D} (hd : tyD h d .str = some false) : (cal tb (k + 3) 182 [d] h).wp (fun v h' => False) (fun e h' => e = ⟨22, [(49, .int 0)]⟩ ∧ Gr h h') := by
  refine cal_wp (fd := d_parse_state) rfl rfl ?_
  unfold d_parse_state b_parse_state
  refine sp_cons ?_
  simp only [Bool.and_eq_true, Bool.or_eq_true, and_true, true_and, or_true, true_or, and_self, Int.reduceLE, Int.reduceLT, Int.reduceAbs, Nat.reducePow, Int.reduceToNat, Int.reducePow, Option.map_some, Option.map_none, beq_iff_eq, decide_eq_true_eq, bind_ok, toS_ok, lift_some, wp_ok, wp_bind, wp_lift_some, wp_ite, sp_toS, sp_ok, sp_ite, seqQ_nx, seqQ_rt, seqQ_bk, seqQ_ct, calQ_nx, calQ_rt, exs_nil, ex_asg, ex_fst, ex_ixs, ex_exp, ex_ret, ex_retn, ex_ife, ex_rai, ex_pass, ex_brk, ex_cont, ev_slot, ev_int, ev_str, ev_bl, ev_non, ev_con, ev_bin, ev_neg, ev_not, ev_and, ev_or, ev_isN, ev_notN, ev_cmp, ev_chn, ev_ite, ev_tup, ev_lst, ev_ix, ev_sl, ev_call, ev_mk, ev_meth, ev_bif, ev_bm, ev_isi, ev_fld, ev_xf, evT_bif, evT_slot, evT_call, evT_meth, evT_isi, evT_ix, evT_fld, evT_bl, tru_bl, evT_not, evT_and, evT_or, evT_cmp, evT_chn, evT_isN, evT_notN, evC_no, evC_so, evo_no, evo_so, evs_nil, evs_cons, evIt_seq, evIt_rng1, evIt_rng2, evIt_zip, eqD_int, at0, at1, at2, at3, addD_int, if_tt, if_ff, tysD, ty_int_int, ty_int_bool, ty_int_str, ty_int_tuple, ty_int_list, ty_bl_int, ty_bl_bool, ty_bl_str, ty_bl_tuple, ty_bl_list, ty_str_int, ty_str_bool, ty_str_str, ty_str_tuple, ty_str_list, ty_tup_int, ty_tup_bool, ty_tup_str, ty_tup_tuple, ty_tup_list, ty_non_int, ty_non_bool, ty_non_str, ty_non_tuple, ty_non_list, ty_frz_int, ty_frz_bool, ty_frz_str, ty_frz_tuple, ty_frz_list, tq_int, tq_bool, tq_str, tq_tuple, tq_list, slotK, negK, isNK, notNK, isN_non, isN_int, isN_bl, isN_str, isN_tup, isN_ref, andK, orK, truK, blK, intK, binD, intD, cmpD, icmpD, bifD, asgK, bindTg, bindTgs, tupK, lstK, isiK, bmK, fldK, startE, List.map_cons, List.map_nil, List.length_cons, List.length_nil, List.replicate_succ, List.replicate_zero, List.cons_append, List.nil_append, List.getElem?_cons_zero, List.getElem?_cons_succ, List.getElem?_nil, List.set_cons_zero, List.set_cons_succ, Nat.reduceSub, Nat.reduceAdd, Nat.reduceLT, if_true, if_false, reduceIte, Bool.not_true, Bool.not_false, reduceCtorEq, hd]
  refine sp_cons ?_
  simp only [Bool.and_eq_true, Bool.or_eq_true, and_true, true_and, or_true, true_or, and_self, Int.reduceLE, Int.reduceLT, Int.reduceAbs, Nat.reducePow, Int.reduceToNat, Int.reducePow, Option.map_some, Option.map_none, beq_iff_eq, decide_eq_true_eq, bind_ok, toS_ok, lift_some, wp_ok, wp_bind, wp_lift_some, wp_ite, sp_toS, sp_ok, sp_ite, seqQ_nx, seqQ_rt, seqQ_bk, seqQ_ct, calQ_nx, calQ_rt, exs_nil, ex_asg, ex_fst, ex_ixs, ex_exp, ex_ret, ex_retn, ex_ife, ex_rai, ex_pass, ex_brk, ex_cont, ev_slot, ev_int, ev_str, ev_bl, ev_non, ev_con, ev_bin, ev_neg, ev_not, ev_and, ev_or, ev_isN, ev_notN, ev_cmp, ev_chn, ev_ite, ev_tup, ev_lst, ev_ix, ev_sl, ev_call, ev_mk, ev_meth, ev_bif, ev_bm, ev_isi, ev_fld, ev_xf, evT_bif, evT_slot, evT_call, evT_meth, evT_isi, evT_ix, evT_fld, evT_bl, tru_bl, evT_not, evT_and, evT_or, evT_cmp, evT_chn, evT_isN, evT_notN, evC_no, evC_so, evo_no, evo_so, evs_nil, evs_cons, evIt_seq, evIt_rng1, evIt_rng2, evIt_zip, eqD_int, at0, at1, at2, at3, addD_int, if_tt, if_ff, tysD, ty_int_int, ty_int_bool, ty_int_str, ty_int_tuple, ty_int_list, ty_bl_int, ty_bl_bool, ty_bl_str, ty_bl_tuple, ty_bl_list, ty_str_int, ty_str_bool, ty_str_str, ty_str_tuple, ty_str_list, ty_tup_int, ty_tup_bool, ty_tup_str, ty_tup_tuple, ty_tup_list, ty_non_int, ty_non_bool, ty_non_str, ty_non_tuple, ty_non_list, ty_frz_int, ty_frz_bool, ty_frz_str, ty_frz_tuple, ty_frz_list, tq_int, tq_bool, tq_str, tq_tuple, tq_list, slotK, negK, isNK, notNK, isN_non, isN_int, isN_bl, isN_str, isN_tup, isN_ref, andK, orK, truK, blK, intK, binD, intD, cmpD, icmpD, bifD, asgK, bindTg, bindTgs, tupK, lstK, isiK, bmK, fldK, startE, List.map_cons, List.map_nil, List.length_cons, List.length_nil, List.replicate_succ, List.replicate_zero, List.cons_append, List.nil_append, List.getElem?_cons_zero, List.getElem?_cons_succ, List.getElem?_nil, List.set_cons_zero, List.set_cons_succ, Nat.reduceSub, Nat.reduceAdd, Nat.reduceLT, if_true, if_false, reduceIte, Bool.not_true, Bool.not_false, reduceCtorEq]
  refine sp_cons ?_
  simp only [Bool.and_eq_true, Bool.or_eq_true, and_true, true_and, or_true, true_or, and_self, Int.reduceLE, Int.reduceLT, Int.reduceAbs, Nat.reducePow, Int.reduceToNat, Int.reducePow, Option.map_some, Option.map_none, beq_iff_eq, decide_eq_true_eq, bind_ok, toS_ok, lift_some, wp_ok, wp_bind, wp_lift_some, wp_ite, sp_toS, sp_ok, sp_ite, seqQ_nx, seqQ_rt, seqQ_bk, seqQ_ct, calQ_nx, calQ_rt, exs_nil, ex_asg, ex_fst, ex_ixs, ex_exp, ex_ret, ex_retn, ex_ife, ex_rai, ex_pass, ex_brk, ex_cont, ev_slot, ev_int, ev_str, ev_bl, ev_non, ev_con, ev_bin, ev_neg, ev_not, ev_and, ev_or, ev_isN, ev_notN, ev_cmp, ev_chn, ev_ite, ev_tup, ev_lst, ev_ix, ev_sl, ev_call, ev_mk, ev_meth, ev_bif, ev_bm, ev_isi, ev_fld, ev_xf, evT_bif, evT_slot, evT_call, evT_meth, evT_isi, evT_ix, evT_fld, evT_bl, tru_bl, evT_not, evT_and, evT_or, evT_cmp, evT_chn, evT_isN, evT_notN, evC_no, evC_so, evo_no, evo_so, evs_nil, evs_cons, evIt_seq, evIt_rng1, evIt_rng2, evIt_zip, eqD_int, at0, at1, at2, at3, addD_int, if_tt, if_ff, tysD, ty_int_int, ty_int_bool, ty_int_str, ty_int_tuple, ty_int_list, ty_bl_int, ty_bl_bool, ty_bl_str, ty_bl_tuple, ty_bl_list, ty_str_int, ty_str_bool, ty_str_str, ty_str_tuple, ty_str_list, ty_tup_int, ty_tup_bool, ty_tup_str, ty_tup_tuple, ty_tup_list, ty_non_int, ty_non_bool, ty_non_str, ty_non_tuple, ty_non_list, ty_frz_int, ty_frz_bool, ty_frz_str, ty_frz_tuple, ty_frz_list, tq_int, tq_bool, tq_str, tq_tuple, tq_list, slotK, negK, isNK, notNK, isN_non, isN_int, isN_bl, isN_str, isN_tup, isN_ref, andK, orK, truK, blK, intK, binD, intD, cmpD, icmpD, bifD, asgK, bindTg, bindTgs, tupK, lstK, isiK, bmK, fldK, startE, List.map_cons, List.map_nil, List.length_cons, List.length_nil, List.replicate_succ, List.replicate_zero, List.cons_append, List.nil_append, List.getElem?_cons_zero, List.getElem?_cons_succ, List.getElem?_nil, List.set_cons_zero, List.set_cons_succ, Nat.reduceSub, Nat.reduceAdd, Nat.reduceLT, if_true, if_false, reduceIte, Bool.not_true, Bool.not_false, reduceCtorEq, raiK]
  first
    | exact ⟨rfl, Gr.refl _⟩
    | exact Gr.refl _
end MPk77

set_option Elab.async false
set_option linter.all false
set_option maxRecDepth 100000
set_option autoImplicit false
set_option maxHeartbeats 8000000
namespace MPk77
open PySem MP
/-- the outcome that is expected -/
def expd (w : Str) : List D := if isNon (pp w) then [.int 0] else [.str "parsed", pp w]
theorem outcome_str {k : Nat} {h : Hh} {w : Str} (hz : w.length ≤ 640) : (cal tb (k + 4) 1006 [.str w] h).wp (fun v h' => ∃ n, v = .ref n ∧ h'[n]? = some (.lst (expd w)) ∧ Gr h h') (fun _ _ => False) := by
  refine cal_wp (fd := d__law_outcome) rfl rfl ?_
  unfold d__law_outcome b__law_outcome
  refine sp_cons ?_
  simp only [Bool.and_eq_true, Bool.or_eq_true, and_true, true_and, or_true, true_or, and_self, Int.reduceLE, Int.reduceLT, Int.reduceAbs, Nat.reducePow, Int.reduceToNat, Int.reducePow, Option.map_some, Option.map_none, beq_iff_eq, decide_eq_true_eq, bind_ok, toS_ok, lift_some, wp_ok, wp_bind, wp_lift_some, wp_ite, sp_toS, sp_ok, sp_ite, seqQ_nx, seqQ_rt, seqQ_bk, seqQ_ct, calQ_nx, calQ_rt, exs_nil, ex_asg, ex_fst, ex_ixs, ex_exp, ex_ret, ex_retn, ex_ife, ex_rai, ex_pass, ex_brk, ex_cont, ev_slot, ev_int, ev_str, ev_bl, ev_non, ev_con, ev_bin, ev_neg, ev_not, ev_and, ev_or, ev_isN, ev_notN, ev_cmp, ev_chn, ev_ite, ev_tup, ev_lst, ev_ix, ev_sl, ev_call, ev_mk, ev_meth, ev_bif, ev_bm, ev_isi, ev_fld, ev_xf, evT_bif, evT_slot, evT_call, evT_meth, evT_isi, evT_ix, evT_fld, evT_bl, tru_bl, evT_not, evT_and, evT_or, evT_cmp, evT_chn, evT_isN, evT_notN, evC_no, evC_so, evo_no, evo_so, evs_nil, evs_cons, evIt_seq, evIt_rng1, evIt_rng2, evIt_zip, eqD_int, at0, at1, at2, at3, addD_int, if_tt, if_ff, tysD, ty_int_int, ty_int_bool, ty_int_str, ty_int_tuple, ty_int_list, ty_bl_int, ty_bl_bool, ty_bl_str, ty_bl_tuple, ty_bl_list, ty_str_int, ty_str_bool, ty_str_str, ty_str_tuple, ty_str_list, ty_tup_int, ty_tup_bool, ty_tup_str, ty_tup_tuple, ty_tup_list, ty_non_int, ty_non_bool, ty_non_str, ty_non_tuple, ty_non_list, ty_frz_int, ty_frz_bool, ty_frz_str, ty_frz_tuple, ty_frz_list, tq_int, tq_bool, tq_str, tq_tuple, tq_list, slotK, negK, isNK, notNK, isN_non, isN_int, isN_bl, isN_str, isN_tup, isN_ref, andK, orK, truK, blK, intK, binD, intD, cmpD, icmpD, bifD, asgK, bindTg, bindTgs, tupK, lstK, isiK, bmK, fldK, startE, List.map_cons, List.map_nil, List.length_cons, List.length_nil, List.replicate_succ, List.replicate_zero, List.cons_append, List.nil_append, List.getElem?_cons_zero, List.getElem?_cons_succ, List.getElem?_nil, List.set_cons_zero, List.set_cons_succ, Nat.reduceSub, Nat.reduceAdd, Nat.reduceLT, if_true, if_false, reduceIte, Bool.not_true, Bool.not_false, reduceCtorEq]
  refine sp_cons ?_
  rw [ex_try, sp_try]
  refine sp_cons ?_
  simp only [Bool.and_eq_true, Bool.or_eq_true, and_true, true_and, or_true, true_or, and_self, Int.reduceLE, Int.reduceLT, Int.reduceAbs, Nat.reducePow, Int.reduceToNat, Int.reducePow, Option.map_some, Option.map_none, beq_iff_eq, decide_eq_true_eq, bind_ok, toS_ok, lift_some, wp_ok, wp_bind, wp_lift_some, wp_ite, sp_toS, sp_ok, sp_ite, seqQ_nx, seqQ_rt, seqQ_bk, seqQ_ct, calQ_nx, calQ_rt, exs_nil, ex_asg, ex_fst, ex_ixs, ex_exp, ex_ret, ex_retn, ex_ife, ex_rai, ex_pass, ex_brk, ex_cont, ev_slot, ev_int, ev_str, ev_bl, ev_non, ev_con, ev_bin, ev_neg, ev_not, ev_and, ev_or, ev_isN, ev_notN, ev_cmp, ev_chn, ev_ite, ev_tup, ev_lst, ev_ix, ev_sl, ev_call, ev_mk, ev_meth, ev_bif, ev_bm, ev_isi, ev_fld, ev_xf, evT_bif, evT_slot, evT_call, evT_meth, evT_isi, evT_ix, evT_fld, evT_bl, tru_bl, evT_not, evT_and, evT_or, evT_cmp, evT_chn, evT_isN, evT_notN, evC_no, evC_so, evo_no, evo_so, evs_nil, evs_cons, evIt_seq, evIt_rng1, evIt_rng2, evIt_zip, eqD_int, at0, at1, at2, at3, addD_int, if_tt, if_ff, tysD, ty_int_int, ty_int_bool, ty_int_str, ty_int_tuple, ty_int_list, ty_bl_int, ty_bl_bool, ty_bl_str, ty_bl_tuple, ty_bl_list, ty_str_int, ty_str_bool, ty_str_str, ty_str_tuple, ty_str_list, ty_tup_int, ty_tup_bool, ty_tup_str, ty_tup_tuple, ty_tup_list, ty_non_int, ty_non_bool, ty_non_str, ty_non_tuple, ty_non_list, ty_frz_int, ty_frz_bool, ty_frz_str, ty_frz_tuple, ty_frz_list, tq_int, tq_bool, tq_str, tq_tuple, tq_list, slotK, negK, isNK, notNK, isN_non, isN_int, isN_bl, isN_str, isN_tup, isN_ref, andK, orK, truK, blK, intK, binD, intD, cmpD, icmpD, bifD, asgK, bindTg, bindTgs, tupK, lstK, isiK, bmK, fldK, startE, List.map_cons, List.map_nil, List.length_cons, List.length_nil, List.replicate_succ, List.replicate_zero, List.cons_append, List.nil_append, List.getElem?_cons_zero, List.getElem?_cons_succ, List.getElem?_nil, List.set_cons_zero, List.set_cons_succ, Nat.reduceSub, Nat.reduceAdd, Nat.reduceLT, if_true, if_false, reduceIte, Bool.not_true, Bool.not_false, reduceCtorEq]
  refine wp_mono (parse_state_str hz) (fun v h' ⟨e, c, g⟩ => ?_) (fun e h' ⟨he, c, g⟩ => ?_)
  · subst e
    have l2 : (2 : Nat) ≤ SL := by decide
    simp only [Bool.and_eq_true, Bool.or_eq_true, and_true, true_and, or_true, true_or, and_self, Int.reduceLE, Int.reduceLT, Int.reduceAbs, Nat.reducePow, Int.reduceToNat, Int.reducePow, Option.map_some, Option.map_none, beq_iff_eq, decide_eq_true_eq, bind_ok, toS_ok, lift_some, wp_ok, wp_bind, wp_lift_some, wp_ite, sp_toS, sp_ok, sp_ite, seqQ_nx, seqQ_rt, seqQ_bk, seqQ_ct, calQ_nx, calQ_rt, exs_nil, ex_asg, ex_fst, ex_ixs, ex_exp, ex_ret, ex_retn, ex_ife, ex_rai, ex_pass, ex_brk, ex_cont, ev_slot, ev_int, ev_str, ev_bl, ev_non, ev_con, ev_bin, ev_neg, ev_not, ev_and, ev_or, ev_isN, ev_notN, ev_cmp, ev_chn, ev_ite, ev_tup, ev_lst, ev_ix, ev_sl, ev_call, ev_mk, ev_meth, ev_bif, ev_bm, ev_isi, ev_fld, ev_xf, evT_bif, evT_slot, evT_call, evT_meth, evT_isi, evT_ix, evT_fld, evT_bl, tru_bl, evT_not, evT_and, evT_or, evT_cmp, evT_chn, evT_isN, evT_notN, evC_no, evC_so, evo_no, evo_so, evs_nil, evs_cons, evIt_seq, evIt_rng1, evIt_rng2, evIt_zip, eqD_int, at0, at1, at2, at3, addD_int, if_tt, if_ff, tysD, ty_int_int, ty_int_bool, ty_int_str, ty_int_tuple, ty_int_list, ty_bl_int, ty_bl_bool, ty_bl_str, ty_bl_tuple, ty_bl_list, ty_str_int, ty_str_bool, ty_str_str, ty_str_tuple, ty_str_list, ty_tup_int, ty_tup_bool, ty_tup_str, ty_tup_tuple, ty_tup_list, ty_non_int, ty_non_bool, ty_non_str, ty_non_tuple, ty_non_list, ty_frz_int, ty_frz_bool, ty_frz_str, ty_frz_tuple, ty_frz_list, tq_int, tq_bool, tq_str, tq_tuple, tq_list, slotK, negK, isNK, notNK, isN_non, isN_int, isN_bl, isN_str, isN_tup, isN_ref, andK, orK, truK, blK, intK, binD, intD, cmpD, icmpD, bifD, asgK, bindTg, bindTgs, tupK, lstK, isiK, bmK, fldK, startE, List.map_cons, List.map_nil, List.length_cons, List.length_nil, List.replicate_succ, List.replicate_zero, List.cons_append, List.nil_append, List.getElem?_cons_zero, List.getElem?_cons_succ, List.getElem?_nil, List.set_cons_zero, List.set_cons_succ, Nat.reduceSub, Nat.reduceAdd, Nat.reduceLT, if_true, if_false, reduceIte, Bool.not_true, Bool.not_false, reduceCtorEq, l2]
    refine sp_cons ?_
    simp only [Bool.and_eq_true, Bool.or_eq_true, and_true, true_and, or_true, true_or, and_self, Int.reduceLE, Int.reduceLT, Int.reduceAbs, Nat.reducePow, Int.reduceToNat, Int.reducePow, Option.map_some, Option.map_none, beq_iff_eq, decide_eq_true_eq, bind_ok, toS_ok, lift_some, wp_ok, wp_bind, wp_lift_some, wp_ite, sp_toS, sp_ok, sp_ite, seqQ_nx, seqQ_rt, seqQ_bk, seqQ_ct, calQ_nx, calQ_rt, exs_nil, ex_asg, ex_fst, ex_ixs, ex_exp, ex_ret, ex_retn, ex_ife, ex_rai, ex_pass, ex_brk, ex_cont, ev_slot, ev_int, ev_str, ev_bl, ev_non, ev_con, ev_bin, ev_neg, ev_not, ev_and, ev_or, ev_isN, ev_notN, ev_cmp, ev_chn, ev_ite, ev_tup, ev_lst, ev_ix, ev_sl, ev_call, ev_mk, ev_meth, ev_bif, ev_bm, ev_isi, ev_fld, ev_xf, evT_bif, evT_slot, evT_call, evT_meth, evT_isi, evT_ix, evT_fld, evT_bl, tru_bl, evT_not, evT_and, evT_or, evT_cmp, evT_chn, evT_isN, evT_notN, evC_no, evC_so, evo_no, evo_so, evs_nil, evs_cons, evIt_seq, evIt_rng1, evIt_rng2, evIt_zip, eqD_int, at0, at1, at2, at3, addD_int, if_tt, if_ff, tysD, ty_int_int, ty_int_bool, ty_int_str, ty_int_tuple, ty_int_list, ty_bl_int, ty_bl_bool, ty_bl_str, ty_bl_tuple, ty_bl_list, ty_str_int, ty_str_bool, ty_str_str, ty_str_tuple, ty_str_list, ty_tup_int, ty_tup_bool, ty_tup_str, ty_tup_tuple, ty_tup_list, ty_non_int, ty_non_bool, ty_non_str, ty_non_tuple, ty_non_list, ty_frz_int, ty_frz_bool, ty_frz_str, ty_frz_tuple, ty_frz_list, tq_int, tq_bool, tq_str, tq_tuple, tq_list, slotK, negK, isNK, notNK, isN_non, isN_int, isN_bl, isN_str, isN_tup, isN_ref, andK, orK, truK, blK, intK, binD, intD, cmpD, icmpD, bifD, asgK, bindTg, bindTgs, tupK, lstK, isiK, bmK, fldK, startE, List.map_cons, List.map_nil, List.length_cons, List.length_nil, List.replicate_succ, List.replicate_zero, List.cons_append, List.nil_append, List.getElem?_cons_zero, List.getElem?_cons_succ, List.getElem?_nil, List.set_cons_zero, List.set_cons_succ, Nat.reduceSub, Nat.reduceAdd, Nat.reduceLT, if_true, if_false, reduceIte, Bool.not_true, Bool.not_false, reduceCtorEq]
    refine ⟨_, rfl, ?_, ((Gr.push h _).trans g).trans (Gr.push _ _)⟩
    unfold expd
    rw [c]
    exact get_push _ _
  · subst he
    simp only [Bool.and_eq_true, Bool.or_eq_true, and_true, true_and, or_true, true_or, and_self, Int.reduceLE, Int.reduceLT, Int.reduceAbs, Nat.reducePow, Int.reduceToNat, Int.reducePow, Option.map_some, Option.map_none, beq_iff_eq, decide_eq_true_eq, bind_ok, toS_ok, lift_some, wp_ok, wp_bind, wp_lift_some, wp_ite, sp_toS, sp_ok, sp_ite, seqQ_nx, seqQ_rt, seqQ_bk, seqQ_ct, calQ_nx, calQ_rt, exs_nil, ex_asg, ex_fst, ex_ixs, ex_exp, ex_ret, ex_retn, ex_ife, ex_rai, ex_pass, ex_brk, ex_cont, ev_slot, ev_int, ev_str, ev_bl, ev_non, ev_con, ev_bin, ev_neg, ev_not, ev_and, ev_or, ev_isN, ev_notN, ev_cmp, ev_chn, ev_ite, ev_tup, ev_lst, ev_ix, ev_sl, ev_call, ev_mk, ev_meth, ev_bif, ev_bm, ev_isi, ev_fld, ev_xf, evT_bif, evT_slot, evT_call, evT_meth, evT_isi, evT_ix, evT_fld, evT_bl, tru_bl, evT_not, evT_and, evT_or, evT_cmp, evT_chn, evT_isN, evT_notN, evC_no, evC_so, evo_no, evo_so, evs_nil, evs_cons, evIt_seq, evIt_rng1, evIt_rng2, evIt_zip, eqD_int, at0, at1, at2, at3, addD_int, if_tt, if_ff, tysD, ty_int_int, ty_int_bool, ty_int_str, ty_int_tuple, ty_int_list, ty_bl_int, ty_bl_bool, ty_bl_str, ty_bl_tuple, ty_bl_list, ty_str_int, ty_str_bool, ty_str_str, ty_str_tuple, ty_str_list, ty_tup_int, ty_tup_bool, ty_tup_str, ty_tup_tuple, ty_tup_list, ty_non_int, ty_non_bool, ty_non_str, ty_non_tuple, ty_non_list, ty_frz_int, ty_frz_bool, ty_frz_str, ty_frz_tuple, ty_frz_list, tq_int, tq_bool, tq_str, tq_tuple, tq_list, slotK, negK, isNK, notNK, isN_non, isN_int, isN_bl, isN_str, isN_tup, isN_ref, andK, orK, truK, blK, intK, binD, intD, cmpD, icmpD, bifD, asgK, bindTg, bindTgs, tupK, lstK, isiK, bmK, fldK, startE, List.map_cons, List.map_nil, List.length_cons, List.length_nil, List.replicate_succ, List.replicate_zero, List.cons_append, List.nil_append, List.getElem?_cons_zero, List.getElem?_cons_succ, List.getElem?_nil, List.set_cons_zero, List.set_cons_succ, Nat.reduceSub, Nat.reduceAdd, Nat.reduceLT, if_true, if_false, reduceIte, Bool.not_true, Bool.not_false, reduceCtorEq, exh_cons, show tb.sub 22 22 = true from rfl, hdl_as, sp_endK]
    have l1 : (1 : Nat) ≤ SL := by decide
    refine sp_cons ?_
    simp only [Bool.and_eq_true, Bool.or_eq_true, and_true, true_and, or_true, true_or, and_self, Int.reduceLE, Int.reduceLT, Int.reduceAbs, Nat.reducePow, Int.reduceToNat, Int.reducePow, Option.map_some, Option.map_none, beq_iff_eq, decide_eq_true_eq, bind_ok, toS_ok, lift_some, wp_ok, wp_bind, wp_lift_some, wp_ite, sp_toS, sp_ok, sp_ite, seqQ_nx, seqQ_rt, seqQ_bk, seqQ_ct, calQ_nx, calQ_rt, exs_nil, ex_asg, ex_fst, ex_ixs, ex_exp, ex_ret, ex_retn, ex_ife, ex_rai, ex_pass, ex_brk, ex_cont, ev_slot, ev_int, ev_str, ev_bl, ev_non, ev_con, ev_bin, ev_neg, ev_not, ev_and, ev_or, ev_isN, ev_notN, ev_cmp, ev_chn, ev_ite, ev_tup, ev_lst, ev_ix, ev_sl, ev_call, ev_mk, ev_meth, ev_bif, ev_bm, ev_isi, ev_fld, ev_xf, evT_bif, evT_slot, evT_call, evT_meth, evT_isi, evT_ix, evT_fld, evT_bl, tru_bl, evT_not, evT_and, evT_or, evT_cmp, evT_chn, evT_isN, evT_notN, evC_no, evC_so, evo_no, evo_so, evs_nil, evs_cons, evIt_seq, evIt_rng1, evIt_rng2, evIt_zip, eqD_int, at0, at1, at2, at3, addD_int, if_tt, if_ff, tysD, ty_int_int, ty_int_bool, ty_int_str, ty_int_tuple, ty_int_list, ty_bl_int, ty_bl_bool, ty_bl_str, ty_bl_tuple, ty_bl_list, ty_str_int, ty_str_bool, ty_str_str, ty_str_tuple, ty_str_list, ty_tup_int, ty_tup_bool, ty_tup_str, ty_tup_tuple, ty_tup_list, ty_non_int, ty_non_bool, ty_non_str, ty_non_tuple, ty_non_list, ty_frz_int, ty_frz_bool, ty_frz_str, ty_frz_tuple, ty_frz_list, tq_int, tq_bool, tq_str, tq_tuple, tq_list, slotK, negK, isNK, notNK, isN_non, isN_int, isN_bl, isN_str, isN_tup, isN_ref, andK, orK, truK, blK, intK, binD, intD, cmpD, icmpD, bifD, asgK, bindTg, bindTgs, tupK, lstK, isiK, bmK, fldK, startE, List.map_cons, List.map_nil, List.length_cons, List.length_nil, List.replicate_succ, List.replicate_zero, List.cons_append, List.nil_append, List.getElem?_cons_zero, List.getElem?_cons_succ, List.getElem?_nil, List.set_cons_zero, List.set_cons_succ, Nat.reduceSub, Nat.reduceAdd, Nat.reduceLT, if_true, if_false, reduceIte, Bool.not_true, Bool.not_false, reduceCtorEq, Option.bind_some, List.lookup_cons, beq_self_eq_true, l1, endQ_nx]
    refine sp_cons ?_
    simp only [Bool.and_eq_true, Bool.or_eq_true, and_true, true_and, or_true, true_or, and_self, Int.reduceLE, Int.reduceLT, Int.reduceAbs, Nat.reducePow, Int.reduceToNat, Int.reducePow, Option.map_some, Option.map_none, beq_iff_eq, decide_eq_true_eq, bind_ok, toS_ok, lift_some, wp_ok, wp_bind, wp_lift_some, wp_ite, sp_toS, sp_ok, sp_ite, seqQ_nx, seqQ_rt, seqQ_bk, seqQ_ct, calQ_nx, calQ_rt, exs_nil, ex_asg, ex_fst, ex_ixs, ex_exp, ex_ret, ex_retn, ex_ife, ex_rai, ex_pass, ex_brk, ex_cont, ev_slot, ev_int, ev_str, ev_bl, ev_non, ev_con, ev_bin, ev_neg, ev_not, ev_and, ev_or, ev_isN, ev_notN, ev_cmp, ev_chn, ev_ite, ev_tup, ev_lst, ev_ix, ev_sl, ev_call, ev_mk, ev_meth, ev_bif, ev_bm, ev_isi, ev_fld, ev_xf, evT_bif, evT_slot, evT_call, evT_meth, evT_isi, evT_ix, evT_fld, evT_bl, tru_bl, evT_not, evT_and, evT_or, evT_cmp, evT_chn, evT_isN, evT_notN, evC_no, evC_so, evo_no, evo_so, evs_nil, evs_cons, evIt_seq, evIt_rng1, evIt_rng2, evIt_zip, eqD_int, at0, at1, at2, at3, addD_int, if_tt, if_ff, tysD, ty_int_int, ty_int_bool, ty_int_str, ty_int_tuple, ty_int_list, ty_bl_int, ty_bl_bool, ty_bl_str, ty_bl_tuple, ty_bl_list, ty_str_int, ty_str_bool, ty_str_str, ty_str_tuple, ty_str_list, ty_tup_int, ty_tup_bool, ty_tup_str, ty_tup_tuple, ty_tup_list, ty_non_int, ty_non_bool, ty_non_str, ty_non_tuple, ty_non_list, ty_frz_int, ty_frz_bool, ty_frz_str, ty_frz_tuple, ty_frz_list, tq_int, tq_bool, tq_str, tq_tuple, tq_list, slotK, negK, isNK, notNK, isN_non, isN_int, isN_bl, isN_str, isN_tup, isN_ref, andK, orK, truK, blK, intK, binD, intD, cmpD, icmpD, bifD, asgK, bindTg, bindTgs, tupK, lstK, isiK, bmK, fldK, startE, List.map_cons, List.map_nil, List.length_cons, List.length_nil, List.replicate_succ, List.replicate_zero, List.cons_append, List.nil_append, List.getElem?_cons_zero, List.getElem?_cons_succ, List.getElem?_nil, List.set_cons_zero, List.set_cons_succ, Nat.reduceSub, Nat.reduceAdd, Nat.reduceLT, if_true, if_false, reduceIte, Bool.not_true, Bool.not_false, reduceCtorEq]
    refine ⟨_, rfl, ?_, ((Gr.push h _).trans g).trans (Gr.push _ _)⟩
    unfold expd
    rw [c]
    exact get_push _ _
theorem outcome_no {k : Nat} {h : Hh} {d : D} (hd : tyD h d .str = some false) (hg : ∀ h', Gr h h' → tyD h' d .str = some false) : (cal tb (k + 4) 1006 [d] h).wp (fun v h' => ∃ n, v = .ref n ∧ h'[n]? = some (.lst [.int 0]) ∧ Gr h h') (fun _ _ => False) := by
  refine cal_wp (fd := d__law_outcome) rfl rfl ?_
  unfold d__law_outcome b__law_outcome
  refine sp_cons ?_
  simp only [Bool.and_eq_true, Bool.or_eq_true, and_true, true_and, or_true, true_or, and_self, Int.reduceLE, Int.reduceLT, Int.reduceAbs, Nat.reducePow, Int.reduceToNat, Int.reducePow, Option.map_some, Option.map_none, beq_iff_eq, decide_eq_true_eq, bind_ok, toS_ok, lift_some, wp_ok, wp_bind, wp_lift_some, wp_ite, sp_toS, sp_ok, sp_ite, seqQ_nx, seqQ_rt, seqQ_bk, seqQ_ct, calQ_nx, calQ_rt, exs_nil, ex_asg, ex_fst, ex_ixs, ex_exp, ex_ret, ex_retn, ex_ife, ex_rai, ex_pass, ex_brk, ex_cont, ev_slot, ev_int, ev_str, ev_bl, ev_non, ev_con, ev_bin, ev_neg, ev_not, ev_and, ev_or, ev_isN, ev_notN, ev_cmp, ev_chn, ev_ite, ev_tup, ev_lst, ev_ix, ev_sl, ev_call, ev_mk, ev_meth, ev_bif, ev_bm, ev_isi, ev_fld, ev_xf, evT_bif, evT_slot, evT_call, evT_meth, evT_isi, evT_ix, evT_fld, evT_bl, tru_bl, evT_not, evT_and, evT_or, evT_cmp, evT_chn, evT_isN, evT_notN, evC_no, evC_so, evo_no, evo_so, evs_nil, evs_cons, evIt_seq, evIt_rng1, evIt_rng2, evIt_zip, eqD_int, at0, at1, at2, at3, addD_int, if_tt, if_ff, tysD, ty_int_int, ty_int_bool, ty_int_str, ty_int_tuple, ty_int_list, ty_bl_int, ty_bl_bool, ty_bl_str, ty_bl_tuple, ty_bl_list, ty_str_int, ty_str_bool, ty_str_str, ty_str_tuple, ty_str_list, ty_tup_int, ty_tup_bool, ty_tup_str, ty_tup_tuple, ty_tup_list, ty_non_int, ty_non_bool, ty_non_str, ty_non_tuple, ty_non_list, ty_frz_int, ty_frz_bool, ty_frz_str, ty_frz_tuple, ty_frz_list, tq_int, tq_bool, tq_str, tq_tuple, tq_list, slotK, negK, isNK, notNK, isN_non, isN_int, isN_bl, isN_str, isN_tup, isN_ref, andK, orK, truK, blK, intK, binD, intD, cmpD, icmpD, bifD, asgK, bindTg, bindTgs, tupK, lstK, isiK, bmK, fldK, startE, List.map_cons, List.map_nil, List.length_cons, List.length_nil, List.replicate_succ, List.replicate_zero, List.cons_append, List.nil_append, List.getElem?_cons_zero, List.getElem?_cons_succ, List.getElem?_nil, List.set_cons_zero, List.set_cons_succ, Nat.reduceSub, Nat.reduceAdd, Nat.reduceLT, if_true, if_false, reduceIte, Bool.not_true, Bool.not_false, reduceCtorEq]
  refine sp_cons ?_
  rw [ex_try, sp_try]
  refine sp_cons ?_
  simp only [Bool.and_eq_true, Bool.or_eq_true, and_true, true_and, or_true, true_or, and_self, Int.reduceLE, Int.reduceLT, Int.reduceAbs, Nat.reducePow, Int.reduceToNat, Int.reducePow, Option.map_some, Option.map_none, beq_iff_eq, decide_eq_true_eq, bind_ok, toS_ok, lift_some, wp_ok, wp_bind, wp_lift_some, wp_ite, sp_toS, sp_ok, sp_ite, seqQ_nx, seqQ_rt, seqQ_bk, seqQ_ct, calQ_nx, calQ_rt, exs_nil, ex_asg, ex_fst, ex_ixs, ex_exp, ex_ret, ex_retn, ex_ife, ex_rai, ex_pass, ex_brk, ex_cont, ev_slot, ev_int, ev_str, ev_bl, ev_non, ev_con, ev_bin, ev_neg, ev_not, ev_and, ev_or, ev_isN, ev_notN, ev_cmp, ev_chn, ev_ite, ev_tup, ev_lst, ev_ix, ev_sl, ev_call, ev_mk, ev_meth, ev_bif, ev_bm, ev_isi, ev_fld, ev_xf, evT_bif, evT_slot, evT_call, evT_meth, evT_isi, evT_ix, evT_fld, evT_bl, tru_bl, evT_not, evT_and, evT_or, evT_cmp, evT_chn, evT_isN, evT_notN, evC_no, evC_so, evo_no, evo_so, evs_nil, evs_cons, evIt_seq, evIt_rng1, evIt_rng2, evIt_zip, eqD_int, at0, at1, at2, at3, addD_int, if_tt, if_ff, tysD, ty_int_int, ty_int_bool, ty_int_str, ty_int_tuple, ty_int_list, ty_bl_int, ty_bl_bool, ty_bl_str, ty_bl_tuple, ty_bl_list, ty_str_int, ty_str_bool, ty_str_str, ty_str_tuple, ty_str_list, ty_tup_int, ty_tup_bool, ty_tup_str, ty_tup_tuple, ty_tup_list, ty_non_int, ty_non_bool, ty_non_str, ty_non_tuple, ty_non_list, ty_frz_int, ty_frz_bool, ty_frz_str, ty_frz_tuple, ty_frz_list, tq_int, tq_bool, tq_str, tq_tuple, tq_list, slotK, negK, isNK, notNK, isN_non, isN_int, isN_bl, isN_str, isN_tup, isN_ref, andK, orK, truK, blK, intK, binD, intD, cmpD, icmpD, bifD, asgK, bindTg, bindTgs, tupK, lstK, isiK, bmK, fldK, startE, List.map_cons, List.map_nil, List.length_cons, List.length_nil, List.replicate_succ, List.replicate_zero, List.cons_append, List.nil_append, List.getElem?_cons_zero, List.getElem?_cons_succ, List.getElem?_nil, List.set_cons_zero, List.set_cons_succ, Nat.reduceSub, Nat.reduceAdd, Nat.reduceLT, if_true, if_false, reduceIte, Bool.not_true, Bool.not_false, reduceCtorEq]
  refine wp_mono (parse_state_no (hg _ (Gr.push h _))) (fun v h' z => z.elim) (fun e h' ⟨he, g⟩ => ?_)
  subst he
  simp only [Bool.and_eq_true, Bool.or_eq_true, and_true, true_and, or_true, true_or, and_self, Int.reduceLE, Int.reduceLT, Int.reduceAbs, Nat.reducePow, Int.reduceToNat, Int.reducePow, Option.map_some, Option.map_none, beq_iff_eq, decide_eq_true_eq, bind_ok, toS_ok, lift_some, wp_ok, wp_bind, wp_lift_some, wp_ite, sp_toS, sp_ok, sp_ite, seqQ_nx, seqQ_rt, seqQ_bk, seqQ_ct, calQ_nx, calQ_rt, exs_nil, ex_asg, ex_fst, ex_ixs, ex_exp, ex_ret, ex_retn, ex_ife, ex_rai, ex_pass, ex_brk, ex_cont, ev_slot, ev_int, ev_str, ev_bl, ev_non, ev_con, ev_bin, ev_neg, ev_not, ev_and, ev_or, ev_isN, ev_notN, ev_cmp, ev_chn, ev_ite, ev_tup, ev_lst, ev_ix, ev_sl, ev_call, ev_mk, ev_meth, ev_bif, ev_bm, ev_isi, ev_fld, ev_xf, evT_bif, evT_slot, evT_call, evT_meth, evT_isi, evT_ix, evT_fld, evT_bl, tru_bl, evT_not, evT_and, evT_or, evT_cmp, evT_chn, evT_isN, evT_notN, evC_no, evC_so, evo_no, evo_so, evs_nil, evs_cons, evIt_seq, evIt_rng1, evIt_rng2, evIt_zip, eqD_int, at0, at1, at2, at3, addD_int, if_tt, if_ff, tysD, ty_int_int, ty_int_bool, ty_int_str, ty_int_tuple, ty_int_list, ty_bl_int, ty_bl_bool, ty_bl_str, ty_bl_tuple, ty_bl_list, ty_str_int, ty_str_bool, ty_str_str, ty_str_tuple, ty_str_list, ty_tup_int, ty_tup_bool, ty_tup_str, ty_tup_tuple, ty_tup_list, ty_non_int, ty_non_bool, ty_non_str, ty_non_tuple, ty_non_list, ty_frz_int, ty_frz_bool, ty_frz_str, ty_frz_tuple, ty_frz_list, tq_int, tq_bool, tq_str, tq_tuple, tq_list, slotK, negK, isNK, notNK, isN_non, isN_int, isN_bl, isN_str, isN_tup, isN_ref, andK, orK, truK, blK, intK, binD, intD, cmpD, icmpD, bifD, asgK, bindTg, bindTgs, tupK, lstK, isiK, bmK, fldK, startE, List.map_cons, List.map_nil, List.length_cons, List.length_nil, List.replicate_succ, List.replicate_zero, List.cons_append, List.nil_append, List.getElem?_cons_zero, List.getElem?_cons_succ, List.getElem?_nil, List.set_cons_zero, List.set_cons_succ, Nat.reduceSub, Nat.reduceAdd, Nat.reduceLT, if_true, if_false, reduceIte, Bool.not_true, Bool.not_false, reduceCtorEq, exh_cons, show tb.sub 22 22 = true from rfl, hdl_as, sp_endK]
  have l1 : (1 : Nat) ≤ SL := by decide
  refine sp_cons ?_
  simp only [Bool.and_eq_true, Bool.or_eq_true, and_true, true_and, or_true, true_or, and_self, Int.reduceLE, Int.reduceLT, Int.reduceAbs, Nat.reducePow, Int.reduceToNat, Int.reducePow, Option.map_some, Option.map_none, beq_iff_eq, decide_eq_true_eq, bind_ok, toS_ok, lift_some, wp_ok, wp_bind, wp_lift_some, wp_ite, sp_toS, sp_ok, sp_ite, seqQ_nx, seqQ_rt, seqQ_bk, seqQ_ct, calQ_nx, calQ_rt, exs_nil, ex_asg, ex_fst, ex_ixs, ex_exp, ex_ret, ex_retn, ex_ife, ex_rai, ex_pass, ex_brk, ex_cont, ev_slot, ev_int, ev_str, ev_bl, ev_non, ev_con, ev_bin, ev_neg, ev_not, ev_and, ev_or, ev_isN, ev_notN, ev_cmp, ev_chn, ev_ite, ev_tup, ev_lst, ev_ix, ev_sl, ev_call, ev_mk, ev_meth, ev_bif, ev_bm, ev_isi, ev_fld, ev_xf, evT_bif, evT_slot, evT_call, evT_meth, evT_isi, evT_ix, evT_fld, evT_bl, tru_bl, evT_not, evT_and, evT_or, evT_cmp, evT_chn, evT_isN, evT_notN, evC_no, evC_so, evo_no, evo_so, evs_nil, evs_cons, evIt_seq, evIt_rng1, evIt_rng2, evIt_zip, eqD_int, at0, at1, at2, at3, addD_int, if_tt, if_ff, tysD, ty_int_int, ty_int_bool, ty_int_str, ty_int_tuple, ty_int_list, ty_bl_int, ty_bl_bool, ty_bl_str, ty_bl_tuple, ty_bl_list, ty_str_int, ty_str_bool, ty_str_str, ty_str_tuple, ty_str_list, ty_tup_int, ty_tup_bool, ty_tup_str, ty_tup_tuple, ty_tup_list, ty_non_int, ty_non_bool, ty_non_str, ty_non_tuple, ty_non_list, ty_frz_int, ty_frz_bool, ty_frz_str, ty_frz_tuple, ty_frz_list, tq_int, tq_bool, tq_str, tq_tuple, tq_list, slotK, negK, isNK, notNK, isN_non, isN_int, isN_bl, isN_str, isN_tup, isN_ref, andK, orK, truK, blK, intK, binD, intD, cmpD, icmpD, bifD, asgK, bindTg, bindTgs, tupK, lstK, isiK, bmK, fldK, startE, List.map_cons, List.map_nil, List.length_cons, List.length_nil, List.replicate_succ, List.replicate_zero, List.cons_append, List.nil_append, List.getElem?_cons_zero, List.getElem?_cons_succ, List.getElem?_nil, List.set_cons_zero, List.set_cons_succ, Nat.reduceSub, Nat.reduceAdd, Nat.reduceLT, if_true, if_false, reduceIte, Bool.not_true, Bool.not_false, reduceCtorEq, Option.bind_some, List.lookup_cons, beq_self_eq_true, l1, endQ_nx]
  refine sp_cons ?_
  simp only [Bool.and_eq_true, Bool.or_eq_true, and_true, true_and, or_true, true_or, and_self, Int.reduceLE, Int.reduceLT, Int.reduceAbs, Nat.reducePow, Int.reduceToNat, Int.reducePow, Option.map_some, Option.map_none, beq_iff_eq, decide_eq_true_eq, bind_ok, toS_ok, lift_some, wp_ok, wp_bind, wp_lift_some, wp_ite, sp_toS, sp_ok, sp_ite, seqQ_nx, seqQ_rt, seqQ_bk, seqQ_ct, calQ_nx, calQ_rt, exs_nil, ex_asg, ex_fst, ex_ixs, ex_exp, ex_ret, ex_retn, ex_ife, ex_rai, ex_pass, ex_brk, ex_cont, ev_slot, ev_int, ev_str, ev_bl, ev_non, ev_con, ev_bin, ev_neg, ev_not, ev_and, ev_or, ev_isN, ev_notN, ev_cmp, ev_chn, ev_ite, ev_tup, ev_lst, ev_ix, ev_sl, ev_call, ev_mk, ev_meth, ev_bif, ev_bm, ev_isi, ev_fld, ev_xf, evT_bif, evT_slot, evT_call, evT_meth, evT_isi, evT_ix, evT_fld, evT_bl, tru_bl, evT_not, evT_and, evT_or, evT_cmp, evT_chn, evT_isN, evT_notN, evC_no, evC_so, evo_no, evo_so, evs_nil, evs_cons, evIt_seq, evIt_rng1, evIt_rng2, evIt_zip, eqD_int, at0, at1, at2, at3, addD_int, if_tt, if_ff, tysD, ty_int_int, ty_int_bool, ty_int_str, ty_int_tuple, ty_int_list, ty_bl_int, ty_bl_bool, ty_bl_str, ty_bl_tuple, ty_bl_list, ty_str_int, ty_str_bool, ty_str_str, ty_str_tuple, ty_str_list, ty_tup_int, ty_tup_bool, ty_tup_str, ty_tup_tuple, ty_tup_list, ty_non_int, ty_non_bool, ty_non_str, ty_non_tuple, ty_non_list, ty_frz_int, ty_frz_bool, ty_frz_str, ty_frz_tuple, ty_frz_list, tq_int, tq_bool, tq_str, tq_tuple, tq_list, slotK, negK, isNK, notNK, isN_non, isN_int, isN_bl, isN_str, isN_tup, isN_ref, andK, orK, truK, blK, intK, binD, intD, cmpD, icmpD, bifD, asgK, bindTg, bindTgs, tupK, lstK, isiK, bmK, fldK, startE, List.map_cons, List.map_nil, List.length_cons, List.length_nil, List.replicate_succ, List.replicate_zero, List.cons_append, List.nil_append, List.getElem?_cons_zero, List.getElem?_cons_succ, List.getElem?_nil, List.set_cons_zero, List.set_cons_succ, Nat.reduceSub, Nat.reduceAdd, Nat.reduceLT, if_true, if_false, reduceIte, Bool.not_true, Bool.not_false, reduceCtorEq]
  exact ⟨_, rfl, get_push _ _, ((Gr.push h _).trans g).trans (Gr.push _ _)⟩
end MPk77

set_option Elab.async false
set_option linter.all false
set_option maxRecDepth 100000
set_option autoImplicit false
set_option maxHeartbeats 8000000
namespace MPk77
open PySem MP
theorem eq_int {k : Nat} {h : Hh} {i : Int} : (cal tb (k + 1) 1002 [.int i, .int i] h).wp (fun v h' => v = .bl true ∧ Gr h h') (fun _ _ => False) := by
  refine cal_wp (fd := d__law_equal) rfl rfl ?_
  unfold d__law_equal b__law_equal
  refine sp_cons ?_
  simp only [Bool.and_eq_true, Bool.or_eq_true, and_true, true_and, or_true, true_or, and_self, Int.reduceLE, Int.reduceLT, Int.reduceAbs, Nat.reducePow, Int.reduceToNat, Int.reducePow, Option.map_some, Option.map_none, beq_iff_eq, decide_eq_true_eq, bind_ok, toS_ok, lift_some, wp_ok, wp_bind, wp_lift_some, wp_ite, sp_toS, sp_ok, sp_ite, seqQ_nx, seqQ_rt, seqQ_bk, seqQ_ct, calQ_nx, calQ_rt, exs_nil, ex_asg, ex_fst, ex_ixs, ex_exp, ex_ret, ex_retn, ex_ife, ex_rai, ex_pass, ex_brk, ex_cont, ev_slot, ev_int, ev_str, ev_bl, ev_non, ev_con, ev_bin, ev_neg, ev_not, ev_and, ev_or, ev_isN, ev_notN, ev_cmp, ev_chn, ev_ite, ev_tup, ev_lst, ev_ix, ev_sl, ev_call, ev_mk, ev_meth, ev_bif, ev_bm, ev_isi, ev_fld, ev_xf, evT_bif, evT_slot, evT_call, evT_meth, evT_isi, evT_ix, evT_fld, evT_bl, tru_bl, evT_not, evT_and, evT_or, evT_cmp, evT_chn, evT_isN, evT_notN, evC_no, evC_so, evo_no, evo_so, evs_nil, evs_cons, evIt_seq, evIt_rng1, evIt_rng2, evIt_zip, eqD_int, at0, at1, at2, at3, addD_int, if_tt, if_ff, tysD, ty_int_int, ty_int_bool, ty_int_str, ty_int_tuple, ty_int_list, ty_bl_int, ty_bl_bool, ty_bl_str, ty_bl_tuple, ty_bl_list, ty_str_int, ty_str_bool, ty_str_str, ty_str_tuple, ty_str_list, ty_tup_int, ty_tup_bool, ty_tup_str, ty_tup_tuple, ty_tup_list, ty_non_int, ty_non_bool, ty_non_str, ty_non_tuple, ty_non_list, ty_frz_int, ty_frz_bool, ty_frz_str, ty_frz_tuple, ty_frz_list, tq_int, tq_bool, tq_str, tq_tuple, tq_list, slotK, negK, isNK, notNK, isN_non, isN_int, isN_bl, isN_str, isN_tup, isN_ref, andK, orK, truK, blK, intK, binD, intD, cmpD, icmpD, bifD, asgK, bindTg, bindTgs, tupK, lstK, isiK, bmK, fldK, startE, List.map_cons, List.map_nil, List.length_cons, List.length_nil, List.replicate_succ, List.replicate_zero, List.cons_append, List.nil_append, List.getElem?_cons_zero, List.getElem?_cons_succ, List.getElem?_nil, List.set_cons_zero, List.set_cons_succ, Nat.reduceSub, Nat.reduceAdd, Nat.reduceLT, if_true, if_false, reduceIte, Bool.not_true, Bool.not_false, reduceCtorEq]
  refine sp_cons ?_
  simp only [Bool.and_eq_true, Bool.or_eq_true, and_true, true_and, or_true, true_or, and_self, Int.reduceLE, Int.reduceLT, Int.reduceAbs, Nat.reducePow, Int.reduceToNat, Int.reducePow, Option.map_some, Option.map_none, beq_iff_eq, decide_eq_true_eq, bind_ok, toS_ok, lift_some, wp_ok, wp_bind, wp_lift_some, wp_ite, sp_toS, sp_ok, sp_ite, seqQ_nx, seqQ_rt, seqQ_bk, seqQ_ct, calQ_nx, calQ_rt, exs_nil, ex_asg, ex_fst, ex_ixs, ex_exp, ex_ret, ex_retn, ex_ife, ex_rai, ex_pass, ex_brk, ex_cont, ev_slot, ev_int, ev_str, ev_bl, ev_non, ev_con, ev_bin, ev_neg, ev_not, ev_and, ev_or, ev_isN, ev_notN, ev_cmp, ev_chn, ev_ite, ev_tup, ev_lst, ev_ix, ev_sl, ev_call, ev_mk, ev_meth, ev_bif, ev_bm, ev_isi, ev_fld, ev_xf, evT_bif, evT_slot, evT_call, evT_meth, evT_isi, evT_ix, evT_fld, evT_bl, tru_bl, evT_not, evT_and, evT_or, evT_cmp, evT_chn, evT_isN, evT_notN, evC_no, evC_so, evo_no, evo_so, evs_nil, evs_cons, evIt_seq, evIt_rng1, evIt_rng2, evIt_zip, eqD_int, at0, at1, at2, at3, addD_int, if_tt, if_ff, tysD, ty_int_int, ty_int_bool, ty_int_str, ty_int_tuple, ty_int_list, ty_bl_int, ty_bl_bool, ty_bl_str, ty_bl_tuple, ty_bl_list, ty_str_int, ty_str_bool, ty_str_str, ty_str_tuple, ty_str_list, ty_tup_int, ty_tup_bool, ty_tup_str, ty_tup_tuple, ty_tup_list, ty_non_int, ty_non_bool, ty_non_str, ty_non_tuple, ty_non_list, ty_frz_int, ty_frz_bool, ty_frz_str, ty_frz_tuple, ty_frz_list, tq_int, tq_bool, tq_str, tq_tuple, tq_list, slotK, negK, isNK, notNK, isN_non, isN_int, isN_bl, isN_str, isN_tup, isN_ref, andK, orK, truK, blK, intK, binD, intD, cmpD, icmpD, bifD, asgK, bindTg, bindTgs, tupK, lstK, isiK, bmK, fldK, startE, List.map_cons, List.map_nil, List.length_cons, List.length_nil, List.replicate_succ, List.replicate_zero, List.cons_append, List.nil_append, List.getElem?_cons_zero, List.getElem?_cons_succ, List.getElem?_nil, List.set_cons_zero, List.set_cons_succ, Nat.reduceSub, Nat.reduceAdd, Nat.reduceLT, if_true, if_false, reduceIte, Bool.not_true, Bool.not_false, reduceCtorEq]
  refine sp_cons ?_
  simp only [Bool.and_eq_true, Bool.or_eq_true, and_true, true_and, or_true, true_or, and_self, Int.reduceLE, Int.reduceLT, Int.reduceAbs, Nat.reducePow, Int.reduceToNat, Int.reducePow, Option.map_some, Option.map_none, beq_iff_eq, decide_eq_true_eq, bind_ok, toS_ok, lift_some, wp_ok, wp_bind, wp_lift_some, wp_ite, sp_toS, sp_ok, sp_ite, seqQ_nx, seqQ_rt, seqQ_bk, seqQ_ct, calQ_nx, calQ_rt, exs_nil, ex_asg, ex_fst, ex_ixs, ex_exp, ex_ret, ex_retn, ex_ife, ex_rai, ex_pass, ex_brk, ex_cont, ev_slot, ev_int, ev_str, ev_bl, ev_non, ev_con, ev_bin, ev_neg, ev_not, ev_and, ev_or, ev_isN, ev_notN, ev_cmp, ev_chn, ev_ite, ev_tup, ev_lst, ev_ix, ev_sl, ev_call, ev_mk, ev_meth, ev_bif, ev_bm, ev_isi, ev_fld, ev_xf, evT_bif, evT_slot, evT_call, evT_meth, evT_isi, evT_ix, evT_fld, evT_bl, tru_bl, evT_not, evT_and, evT_or, evT_cmp, evT_chn, evT_isN, evT_notN, evC_no, evC_so, evo_no, evo_so, evs_nil, evs_cons, evIt_seq, evIt_rng1, evIt_rng2, evIt_zip, eqD_int, at0, at1, at2, at3, addD_int, if_tt, if_ff, tysD, ty_int_int, ty_int_bool, ty_int_str, ty_int_tuple, ty_int_list, ty_bl_int, ty_bl_bool, ty_bl_str, ty_bl_tuple, ty_bl_list, ty_str_int, ty_str_bool, ty_str_str, ty_str_tuple, ty_str_list, ty_tup_int, ty_tup_bool, ty_tup_str, ty_tup_tuple, ty_tup_list, ty_non_int, ty_non_bool, ty_non_str, ty_non_tuple, ty_non_list, ty_frz_int, ty_frz_bool, ty_frz_str, ty_frz_tuple, ty_frz_list, tq_int, tq_bool, tq_str, tq_tuple, tq_list, slotK, negK, isNK, notNK, isN_non, isN_int, isN_bl, isN_str, isN_tup, isN_ref, andK, orK, truK, blK, intK, binD, intD, cmpD, icmpD, bifD, asgK, bindTg, bindTgs, tupK, lstK, isiK, bmK, fldK, startE, List.map_cons, List.map_nil, List.length_cons, List.length_nil, List.replicate_succ, List.replicate_zero, List.cons_append, List.nil_append, List.getElem?_cons_zero, List.getElem?_cons_succ, List.getElem?_nil, List.set_cons_zero, List.set_cons_succ, Nat.reduceSub, Nat.reduceAdd, Nat.reduceLT, if_true, if_false, reduceIte, Bool.not_true, Bool.not_false, reduceCtorEq]
  refine sp_cons ?_
  simp only [Bool.and_eq_true, Bool.or_eq_true, and_true, true_and, or_true, true_or, and_self, Int.reduceLE, Int.reduceLT, Int.reduceAbs, Nat.reducePow, Int.reduceToNat, Int.reducePow, Option.map_some, Option.map_none, beq_iff_eq, decide_eq_true_eq, bind_ok, toS_ok, lift_some, wp_ok, wp_bind, wp_lift_some, wp_ite, sp_toS, sp_ok, sp_ite, seqQ_nx, seqQ_rt, seqQ_bk, seqQ_ct, calQ_nx, calQ_rt, exs_nil, ex_asg, ex_fst, ex_ixs, ex_exp, ex_ret, ex_retn, ex_ife, ex_rai, ex_pass, ex_brk, ex_cont, ev_slot, ev_int, ev_str, ev_bl, ev_non, ev_con, ev_bin, ev_neg, ev_not, ev_and, ev_or, ev_isN, ev_notN, ev_cmp, ev_chn, ev_ite, ev_tup, ev_lst, ev_ix, ev_sl, ev_call, ev_mk, ev_meth, ev_bif, ev_bm, ev_isi, ev_fld, ev_xf, evT_bif, evT_slot, evT_call, evT_meth, evT_isi, evT_ix, evT_fld, evT_bl, tru_bl, evT_not, evT_and, evT_or, evT_cmp, evT_chn, evT_isN, evT_notN, evC_no, evC_so, evo_no, evo_so, evs_nil, evs_cons, evIt_seq, evIt_rng1, evIt_rng2, evIt_zip, eqD_int, at0, at1, at2, at3, addD_int, if_tt, if_ff, tysD, ty_int_int, ty_int_bool, ty_int_str, ty_int_tuple, ty_int_list, ty_bl_int, ty_bl_bool, ty_bl_str, ty_bl_tuple, ty_bl_list, ty_str_int, ty_str_bool, ty_str_str, ty_str_tuple, ty_str_list, ty_tup_int, ty_tup_bool, ty_tup_str, ty_tup_tuple, ty_tup_list, ty_non_int, ty_non_bool, ty_non_str, ty_non_tuple, ty_non_list, ty_frz_int, ty_frz_bool, ty_frz_str, ty_frz_tuple, ty_frz_list, tq_int, tq_bool, tq_str, tq_tuple, tq_list, slotK, negK, isNK, notNK, isN_non, isN_int, isN_bl, isN_str, isN_tup, isN_ref, andK, orK, truK, blK, intK, binD, intD, cmpD, icmpD, bifD, asgK, bindTg, bindTgs, tupK, lstK, isiK, bmK, fldK, startE, List.map_cons, List.map_nil, List.length_cons, List.length_nil, List.replicate_succ, List.replicate_zero, List.cons_append, List.nil_append, List.getElem?_cons_zero, List.getElem?_cons_succ, List.getElem?_nil, List.set_cons_zero, List.set_cons_succ, Nat.reduceSub, Nat.reduceAdd, Nat.reduceLT, if_true, if_false, reduceIte, Bool.not_true, Bool.not_false, reduceCtorEq]
  refine sp_cons ?_
  simp only [Bool.and_eq_true, Bool.or_eq_true, and_true, true_and, or_true, true_or, and_self, Int.reduceLE, Int.reduceLT, Int.reduceAbs, Nat.reducePow, Int.reduceToNat, Int.reducePow, Option.map_some, Option.map_none, beq_iff_eq, decide_eq_true_eq, bind_ok, toS_ok, lift_some, wp_ok, wp_bind, wp_lift_some, wp_ite, sp_toS, sp_ok, sp_ite, seqQ_nx, seqQ_rt, seqQ_bk, seqQ_ct, calQ_nx, calQ_rt, exs_nil, ex_asg, ex_fst, ex_ixs, ex_exp, ex_ret, ex_retn, ex_ife, ex_rai, ex_pass, ex_brk, ex_cont, ev_slot, ev_int, ev_str, ev_bl, ev_non, ev_con, ev_bin, ev_neg, ev_not, ev_and, ev_or, ev_isN, ev_notN, ev_cmp, ev_chn, ev_ite, ev_tup, ev_lst, ev_ix, ev_sl, ev_call, ev_mk, ev_meth, ev_bif, ev_bm, ev_isi, ev_fld, ev_xf, evT_bif, evT_slot, evT_call, evT_meth, evT_isi, evT_ix, evT_fld, evT_bl, tru_bl, evT_not, evT_and, evT_or, evT_cmp, evT_chn, evT_isN, evT_notN, evC_no, evC_so, evo_no, evo_so, evs_nil, evs_cons, evIt_seq, evIt_rng1, evIt_rng2, evIt_zip, eqD_int, at0, at1, at2, at3, addD_int, if_tt, if_ff, tysD, ty_int_int, ty_int_bool, ty_int_str, ty_int_tuple, ty_int_list, ty_bl_int, ty_bl_bool, ty_bl_str, ty_bl_tuple, ty_bl_list, ty_str_int, ty_str_bool, ty_str_str, ty_str_tuple, ty_str_list, ty_tup_int, ty_tup_bool, ty_tup_str, ty_tup_tuple, ty_tup_list, ty_non_int, ty_non_bool, ty_non_str, ty_non_tuple, ty_non_list, ty_frz_int, ty_frz_bool, ty_frz_str, ty_frz_tuple, ty_frz_list, tq_int, tq_bool, tq_str, tq_tuple, tq_list, slotK, negK, isNK, notNK, isN_non, isN_int, isN_bl, isN_str, isN_tup, isN_ref, andK, orK, truK, blK, intK, binD, intD, cmpD, icmpD, bifD, asgK, bindTg, bindTgs, tupK, lstK, isiK, bmK, fldK, startE, List.map_cons, List.map_nil, List.length_cons, List.length_nil, List.replicate_succ, List.replicate_zero, List.cons_append, List.nil_append, List.getElem?_cons_zero, List.getElem?_cons_succ, List.getElem?_nil, List.set_cons_zero, List.set_cons_succ, Nat.reduceSub, Nat.reduceAdd, Nat.reduceLT, if_true, if_false, reduceIte, Bool.not_true, Bool.not_false, reduceCtorEq, eqD_int, beq_self_eq_true]
  first
    | exact Gr.refl _
    | exact ⟨rfl, Gr.refl _⟩
theorem eq_str {k : Nat} {h : Hh} {i : Str} : (cal tb (k + 1) 1002 [.str i, .str i] h).wp (fun v h' => v = .bl true ∧ Gr h h') (fun _ _ => False) := by
  refine cal_wp (fd := d__law_equal) rfl rfl ?_
  unfold d__law_equal b__law_equal
  refine sp_cons ?_
  simp only [Bool.and_eq_true, Bool.or_eq_true, and_true, true_and, or_true, true_or, and_self, Int.reduceLE, Int.reduceLT, Int.reduceAbs, Nat.reducePow, Int.reduceToNat, Int.reducePow, Option.map_some, Option.map_none, beq_iff_eq, decide_eq_true_eq, bind_ok, toS_ok, lift_some, wp_ok, wp_bind, wp_lift_some, wp_ite, sp_toS, sp_ok, sp_ite, seqQ_nx, seqQ_rt, seqQ_bk, seqQ_ct, calQ_nx, calQ_rt, exs_nil, ex_asg, ex_fst, ex_ixs, ex_exp, ex_ret, ex_retn, ex_ife, ex_rai, ex_pass, ex_brk, ex_cont, ev_slot, ev_int, ev_str, ev_bl, ev_non, ev_con, ev_bin, ev_neg, ev_not, ev_and, ev_or, ev_isN, ev_notN, ev_cmp, ev_chn, ev_ite, ev_tup, ev_lst, ev_ix, ev_sl, ev_call, ev_mk, ev_meth, ev_bif, ev_bm, ev_isi, ev_fld, ev_xf, evT_bif, evT_slot, evT_call, evT_meth, evT_isi, evT_ix, evT_fld, evT_bl, tru_bl, evT_not, evT_and, evT_or, evT_cmp, evT_chn, evT_isN, evT_notN, evC_no, evC_so, evo_no, evo_so, evs_nil, evs_cons, evIt_seq, evIt_rng1, evIt_rng2, evIt_zip, eqD_int, at0, at1, at2, at3, addD_int, if_tt, if_ff, tysD, ty_int_int, ty_int_bool, ty_int_str, ty_int_tuple, ty_int_list, ty_bl_int, ty_bl_bool, ty_bl_str, ty_bl_tuple, ty_bl_list, ty_str_int, ty_str_bool, ty_str_str, ty_str_tuple, ty_str_list, ty_tup_int, ty_tup_bool, ty_tup_str, ty_tup_tuple, ty_tup_list, ty_non_int, ty_non_bool, ty_non_str, ty_non_tuple, ty_non_list, ty_frz_int, ty_frz_bool, ty_frz_str, ty_frz_tuple, ty_frz_list, tq_int, tq_bool, tq_str, tq_tuple, tq_list, slotK, negK, isNK, notNK, isN_non, isN_int, isN_bl, isN_str, isN_tup, isN_ref, andK, orK, truK, blK, intK, binD, intD, cmpD, icmpD, bifD, asgK, bindTg, bindTgs, tupK, lstK, isiK, bmK, fldK, startE, List.map_cons, List.map_nil, List.length_cons, List.length_nil, List.replicate_succ, List.replicate_zero, List.cons_append, List.nil_append, List.getElem?_cons_zero, List.getElem?_cons_succ, List.getElem?_nil, List.set_cons_zero, List.set_cons_succ, Nat.reduceSub, Nat.reduceAdd, Nat.reduceLT, if_true, if_false, reduceIte, Bool.not_true, Bool.not_false, reduceCtorEq]
  refine sp_cons ?_
  simp only [Bool.and_eq_true, Bool.or_eq_true, and_true, true_and, or_true, true_or, and_self, Int.reduceLE, Int.reduceLT, Int.reduceAbs, Nat.reducePow, Int.reduceToNat, Int.reducePow, Option.map_some, Option.map_none, beq_iff_eq, decide_eq_true_eq, bind_ok, toS_ok, lift_some, wp_ok, wp_bind, wp_lift_some, wp_ite, sp_toS, sp_ok, sp_ite, seqQ_nx, seqQ_rt, seqQ_bk, seqQ_ct, calQ_nx, calQ_rt, exs_nil, ex_asg, ex_fst, ex_ixs, ex_exp, ex_ret, ex_retn, ex_ife, ex_rai, ex_pass, ex_brk, ex_cont, ev_slot, ev_int, ev_str, ev_bl, ev_non, ev_con, ev_bin, ev_neg, ev_not, ev_and, ev_or, ev_isN, ev_notN, ev_cmp, ev_chn, ev_ite, ev_tup, ev_lst, ev_ix, ev_sl, ev_call, ev_mk, ev_meth, ev_bif, ev_bm, ev_isi, ev_fld, ev_xf, evT_bif, evT_slot, evT_call, evT_meth, evT_isi, evT_ix, evT_fld, evT_bl, tru_bl, evT_not, evT_and, evT_or, evT_cmp, evT_chn, evT_isN, evT_notN, evC_no, evC_so, evo_no, evo_so, evs_nil, evs_cons, evIt_seq, evIt_rng1, evIt_rng2, evIt_zip, eqD_int, at0, at1, at2, at3, addD_int, if_tt, if_ff, tysD, ty_int_int, ty_int_bool, ty_int_str, ty_int_tuple, ty_int_list, ty_bl_int, ty_bl_bool, ty_bl_str, ty_bl_tuple, ty_bl_list, ty_str_int, ty_str_bool, ty_str_str, ty_str_tuple, ty_str_list, ty_tup_int, ty_tup_bool, ty_tup_str, ty_tup_tuple, ty_tup_list, ty_non_int, ty_non_bool, ty_non_str, ty_non_tuple, ty_non_list, ty_frz_int, ty_frz_bool, ty_frz_str, ty_frz_tuple, ty_frz_list, tq_int, tq_bool, tq_str, tq_tuple, tq_list, slotK, negK, isNK, notNK, isN_non, isN_int, isN_bl, isN_str, isN_tup, isN_ref, andK, orK, truK, blK, intK, binD, intD, cmpD, icmpD, bifD, asgK, bindTg, bindTgs, tupK, lstK, isiK, bmK, fldK, startE, List.map_cons, List.map_nil, List.length_cons, List.length_nil, List.replicate_succ, List.replicate_zero, List.cons_append, List.nil_append, List.getElem?_cons_zero, List.getElem?_cons_succ, List.getElem?_nil, List.set_cons_zero, List.set_cons_succ, Nat.reduceSub, Nat.reduceAdd, Nat.reduceLT, if_true, if_false, reduceIte, Bool.not_true, Bool.not_false, reduceCtorEq]
  refine sp_cons ?_
  simp only [Bool.and_eq_true, Bool.or_eq_true, and_true, true_and, or_true, true_or, and_self, Int.reduceLE, Int.reduceLT, Int.reduceAbs, Nat.reducePow, Int.reduceToNat, Int.reducePow, Option.map_some, Option.map_none, beq_iff_eq, decide_eq_true_eq, bind_ok, toS_ok, lift_some, wp_ok, wp_bind, wp_lift_some, wp_ite, sp_toS, sp_ok, sp_ite, seqQ_nx, seqQ_rt, seqQ_bk, seqQ_ct, calQ_nx, calQ_rt, exs_nil, ex_asg, ex_fst, ex_ixs, ex_exp, ex_ret, ex_retn, ex_ife, ex_rai, ex_pass, ex_brk, ex_cont, ev_slot, ev_int, ev_str, ev_bl, ev_non, ev_con, ev_bin, ev_neg, ev_not, ev_and, ev_or, ev_isN, ev_notN, ev_cmp, ev_chn, ev_ite, ev_tup, ev_lst, ev_ix, ev_sl, ev_call, ev_mk, ev_meth, ev_bif, ev_bm, ev_isi, ev_fld, ev_xf, evT_bif, evT_slot, evT_call, evT_meth, evT_isi, evT_ix, evT_fld, evT_bl, tru_bl, evT_not, evT_and, evT_or, evT_cmp, evT_chn, evT_isN, evT_notN, evC_no, evC_so, evo_no, evo_so, evs_nil, evs_cons, evIt_seq, evIt_rng1, evIt_rng2, evIt_zip, eqD_int, at0, at1, at2, at3, addD_int, if_tt, if_ff, tysD, ty_int_int, ty_int_bool, ty_int_str, ty_int_tuple, ty_int_list, ty_bl_int, ty_bl_bool, ty_bl_str, ty_bl_tuple, ty_bl_list, ty_str_int, ty_str_bool, ty_str_str, ty_str_tuple, ty_str_list, ty_tup_int, ty_tup_bool, ty_tup_str, ty_tup_tuple, ty_tup_list, ty_non_int, ty_non_bool, ty_non_str, ty_non_tuple, ty_non_list, ty_frz_int, ty_frz_bool, ty_frz_str, ty_frz_tuple, ty_frz_list, tq_int, tq_bool, tq_str, tq_tuple, tq_list, slotK, negK, isNK, notNK, isN_non, isN_int, isN_bl, isN_str, isN_tup, isN_ref, andK, orK, truK, blK, intK, binD, intD, cmpD, icmpD, bifD, asgK, bindTg, bindTgs, tupK, lstK, isiK, bmK, fldK, startE, List.map_cons, List.map_nil, List.length_cons, List.length_nil, List.replicate_succ, List.replicate_zero, List.cons_append, List.nil_append, List.getElem?_cons_zero, List.getElem?_cons_succ, List.getElem?_nil, List.set_cons_zero, List.set_cons_succ, Nat.reduceSub, Nat.reduceAdd, Nat.reduceLT, if_true, if_false, reduceIte, Bool.not_true, Bool.not_false, reduceCtorEq]
  refine sp_cons ?_
  simp only [Bool.and_eq_true, Bool.or_eq_true, and_true, true_and, or_true, true_or, and_self, Int.reduceLE, Int.reduceLT, Int.reduceAbs, Nat.reducePow, Int.reduceToNat, Int.reducePow, Option.map_some, Option.map_none, beq_iff_eq, decide_eq_true_eq, bind_ok, toS_ok, lift_some, wp_ok, wp_bind, wp_lift_some, wp_ite, sp_toS, sp_ok, sp_ite, seqQ_nx, seqQ_rt, seqQ_bk, seqQ_ct, calQ_nx, calQ_rt, exs_nil, ex_asg, ex_fst, ex_ixs, ex_exp, ex_ret, ex_retn, ex_ife, ex_rai, ex_pass, ex_brk, ex_cont, ev_slot, ev_int, ev_str, ev_bl, ev_non, ev_con, ev_bin, ev_neg, ev_not, ev_and, ev_or, ev_isN, ev_notN, ev_cmp, ev_chn, ev_ite, ev_tup, ev_lst, ev_ix, ev_sl, ev_call, ev_mk, ev_meth, ev_bif, ev_bm, ev_isi, ev_fld, ev_xf, evT_bif, evT_slot, evT_call, evT_meth, evT_isi, evT_ix, evT_fld, evT_bl, tru_bl, evT_not, evT_and, evT_or, evT_cmp, evT_chn, evT_isN, evT_notN, evC_no, evC_so, evo_no, evo_so, evs_nil, evs_cons, evIt_seq, evIt_rng1, evIt_rng2, evIt_zip, eqD_int, at0, at1, at2, at3, addD_int, if_tt, if_ff, tysD, ty_int_int, ty_int_bool, ty_int_str, ty_int_tuple, ty_int_list, ty_bl_int, ty_bl_bool, ty_bl_str, ty_bl_tuple, ty_bl_list, ty_str_int, ty_str_bool, ty_str_str, ty_str_tuple, ty_str_list, ty_tup_int, ty_tup_bool, ty_tup_str, ty_tup_tuple, ty_tup_list, ty_non_int, ty_non_bool, ty_non_str, ty_non_tuple, ty_non_list, ty_frz_int, ty_frz_bool, ty_frz_str, ty_frz_tuple, ty_frz_list, tq_int, tq_bool, tq_str, tq_tuple, tq_list, slotK, negK, isNK, notNK, isN_non, isN_int, isN_bl, isN_str, isN_tup, isN_ref, andK, orK, truK, blK, intK, binD, intD, cmpD, icmpD, bifD, asgK, bindTg, bindTgs, tupK, lstK, isiK, bmK, fldK, startE, List.map_cons, List.map_nil, List.length_cons, List.length_nil, List.replicate_succ, List.replicate_zero, List.cons_append, List.nil_append, List.getElem?_cons_zero, List.getElem?_cons_succ, List.getElem?_nil, List.set_cons_zero, List.set_cons_succ, Nat.reduceSub, Nat.reduceAdd, Nat.reduceLT, if_true, if_false, reduceIte, Bool.not_true, Bool.not_false, reduceCtorEq]
  refine sp_cons ?_
  simp only [Bool.and_eq_true, Bool.or_eq_true, and_true, true_and, or_true, true_or, and_self, Int.reduceLE, Int.reduceLT, Int.reduceAbs, Nat.reducePow, Int.reduceToNat, Int.reducePow, Option.map_some, Option.map_none, beq_iff_eq, decide_eq_true_eq, bind_ok, toS_ok, lift_some, wp_ok, wp_bind, wp_lift_some, wp_ite, sp_toS, sp_ok, sp_ite, seqQ_nx, seqQ_rt, seqQ_bk, seqQ_ct, calQ_nx, calQ_rt, exs_nil, ex_asg, ex_fst, ex_ixs, ex_exp, ex_ret, ex_retn, ex_ife, ex_rai, ex_pass, ex_brk, ex_cont, ev_slot, ev_int, ev_str, ev_bl, ev_non, ev_con, ev_bin, ev_neg, ev_not, ev_and, ev_or, ev_isN, ev_notN, ev_cmp, ev_chn, ev_ite, ev_tup, ev_lst, ev_ix, ev_sl, ev_call, ev_mk, ev_meth, ev_bif, ev_bm, ev_isi, ev_fld, ev_xf, evT_bif, evT_slot, evT_call, evT_meth, evT_isi, evT_ix, evT_fld, evT_bl, tru_bl, evT_not, evT_and, evT_or, evT_cmp, evT_chn, evT_isN, evT_notN, evC_no, evC_so, evo_no, evo_so, evs_nil, evs_cons, evIt_seq, evIt_rng1, evIt_rng2, evIt_zip, eqD_int, at0, at1, at2, at3, addD_int, if_tt, if_ff, tysD, ty_int_int, ty_int_bool, ty_int_str, ty_int_tuple, ty_int_list, ty_bl_int, ty_bl_bool, ty_bl_str, ty_bl_tuple, ty_bl_list, ty_str_int, ty_str_bool, ty_str_str, ty_str_tuple, ty_str_list, ty_tup_int, ty_tup_bool, ty_tup_str, ty_tup_tuple, ty_tup_list, ty_non_int, ty_non_bool, ty_non_str, ty_non_tuple, ty_non_list, ty_frz_int, ty_frz_bool, ty_frz_str, ty_frz_tuple, ty_frz_list, tq_int, tq_bool, tq_str, tq_tuple, tq_list, slotK, negK, isNK, notNK, isN_non, isN_int, isN_bl, isN_str, isN_tup, isN_ref, andK, orK, truK, blK, intK, binD, intD, cmpD, icmpD, bifD, asgK, bindTg, bindTgs, tupK, lstK, isiK, bmK, fldK, startE, List.map_cons, List.map_nil, List.length_cons, List.length_nil, List.replicate_succ, List.replicate_zero, List.cons_append, List.nil_append, List.getElem?_cons_zero, List.getElem?_cons_succ, List.getElem?_nil, List.set_cons_zero, List.set_cons_succ, Nat.reduceSub, Nat.reduceAdd, Nat.reduceLT, if_true, if_false, reduceIte, Bool.not_true, Bool.not_false, reduceCtorEq, eqD_str, beq_self_eq_true]
  first
    | exact Gr.refl _
    | exact ⟨rfl, Gr.refl _⟩
end MPk77

set_option Elab.async false
set_option linter.all false
set_option maxRecDepth 100000
set_option autoImplicit false
set_option maxHeartbeats 8000000
namespace MPk77
open PySem MP
def EQ (k : Nat) (d : D) (h : Hh) : Prop := (cal tb k 1002 [d, d] h).wp (fun v h' => v = .bl true ∧ Gr h h') (fun _ _ => False)
theorem eq_tup {k : Nat} {h : Hh} {l : List D} (hl : l.length ≤ SL) (he : ∀ d ∈ l, ∀ h', EQ k d h') : EQ (k + 1) (.tup l) h := by
  refine cal_wp (fd := d__law_equal) rfl rfl ?_
  unfold d__law_equal b__law_equal
  refine sp_cons ?_
  simp only [Bool.and_eq_true, Bool.or_eq_true, and_true, true_and, or_true, true_or, and_self, Int.reduceLE, Int.reduceLT, Int.reduceAbs, Nat.reducePow, Int.reduceToNat, Int.reducePow, Option.map_some, Option.map_none, beq_iff_eq, decide_eq_true_eq, bind_ok, toS_ok, lift_some, wp_ok, wp_bind, wp_lift_some, wp_ite, sp_toS, sp_ok, sp_ite, seqQ_nx, seqQ_rt, seqQ_bk, seqQ_ct, calQ_nx, calQ_rt, exs_nil, ex_asg, ex_fst, ex_ixs, ex_exp, ex_ret, ex_retn, ex_ife, ex_rai, ex_pass, ex_brk, ex_cont, ev_slot, ev_int, ev_str, ev_bl, ev_non, ev_con, ev_bin, ev_neg, ev_not, ev_and, ev_or, ev_isN, ev_notN, ev_cmp, ev_chn, ev_ite, ev_tup, ev_lst, ev_ix, ev_sl, ev_call, ev_mk, ev_meth, ev_bif, ev_bm, ev_isi, ev_fld, ev_xf, evT_bif, evT_slot, evT_call, evT_meth, evT_isi, evT_ix, evT_fld, evT_bl, tru_bl, evT_not, evT_and, evT_or, evT_cmp, evT_chn, evT_isN, evT_notN, evC_no, evC_so, evo_no, evo_so, evs_nil, evs_cons, evIt_seq, evIt_rng1, evIt_rng2, evIt_zip, eqD_int, at0, at1, at2, at3, addD_int, if_tt, if_ff, tysD, ty_int_int, ty_int_bool, ty_int_str, ty_int_tuple, ty_int_list, ty_bl_int, ty_bl_bool, ty_bl_str, ty_bl_tuple, ty_bl_list, ty_str_int, ty_str_bool, ty_str_str, ty_str_tuple, ty_str_list, ty_tup_int, ty_tup_bool, ty_tup_str, ty_tup_tuple, ty_tup_list, ty_non_int, ty_non_bool, ty_non_str, ty_non_tuple, ty_non_list, ty_frz_int, ty_frz_bool, ty_frz_str, ty_frz_tuple, ty_frz_list, tq_int, tq_bool, tq_str, tq_tuple, tq_list, slotK, negK, isNK, notNK, isN_non, isN_int, isN_bl, isN_str, isN_tup, isN_ref, andK, orK, truK, blK, intK, binD, intD, cmpD, icmpD, bifD, asgK, bindTg, bindTgs, tupK, lstK, isiK, bmK, fldK, startE, List.map_cons, List.map_nil, List.length_cons, List.length_nil, List.replicate_succ, List.replicate_zero, List.cons_append, List.nil_append, List.getElem?_cons_zero, List.getElem?_cons_succ, List.getElem?_nil, List.set_cons_zero, List.set_cons_succ, Nat.reduceSub, Nat.reduceAdd, Nat.reduceLT, if_true, if_false, reduceIte, Bool.not_true, Bool.not_false, reduceCtorEq]
  refine sp_cons ?_
  simp only [Bool.and_eq_true, Bool.or_eq_true, and_true, true_and, or_true, true_or, and_self, Int.reduceLE, Int.reduceLT, Int.reduceAbs, Nat.reducePow, Int.reduceToNat, Int.reducePow, Option.map_some, Option.map_none, beq_iff_eq, decide_eq_true_eq, bind_ok, toS_ok, lift_some, wp_ok, wp_bind, wp_lift_some, wp_ite, sp_toS, sp_ok, sp_ite, seqQ_nx, seqQ_rt, seqQ_bk, seqQ_ct, calQ_nx, calQ_rt, exs_nil, ex_asg, ex_fst, ex_ixs, ex_exp, ex_ret, ex_retn, ex_ife, ex_rai, ex_pass, ex_brk, ex_cont, ev_slot, ev_int, ev_str, ev_bl, ev_non, ev_con, ev_bin, ev_neg, ev_not, ev_and, ev_or, ev_isN, ev_notN, ev_cmp, ev_chn, ev_ite, ev_tup, ev_lst, ev_ix, ev_sl, ev_call, ev_mk, ev_meth, ev_bif, ev_bm, ev_isi, ev_fld, ev_xf, evT_bif, evT_slot, evT_call, evT_meth, evT_isi, evT_ix, evT_fld, evT_bl, tru_bl, evT_not, evT_and, evT_or, evT_cmp, evT_chn, evT_isN, evT_notN, evC_no, evC_so, evo_no, evo_so, evs_nil, evs_cons, evIt_seq, evIt_rng1, evIt_rng2, evIt_zip, eqD_int, at0, at1, at2, at3, addD_int, if_tt, if_ff, tysD, ty_int_int, ty_int_bool, ty_int_str, ty_int_tuple, ty_int_list, ty_bl_int, ty_bl_bool, ty_bl_str, ty_bl_tuple, ty_bl_list, ty_str_int, ty_str_bool, ty_str_str, ty_str_tuple, ty_str_list, ty_tup_int, ty_tup_bool, ty_tup_str, ty_tup_tuple, ty_tup_list, ty_non_int, ty_non_bool, ty_non_str, ty_non_tuple, ty_non_list, ty_frz_int, ty_frz_bool, ty_frz_str, ty_frz_tuple, ty_frz_list, tq_int, tq_bool, tq_str, tq_tuple, tq_list, slotK, negK, isNK, notNK, isN_non, isN_int, isN_bl, isN_str, isN_tup, isN_ref, andK, orK, truK, blK, intK, binD, intD, cmpD, icmpD, bifD, asgK, bindTg, bindTgs, tupK, lstK, isiK, bmK, fldK, startE, List.map_cons, List.map_nil, List.length_cons, List.length_nil, List.replicate_succ, List.replicate_zero, List.cons_append, List.nil_append, List.getElem?_cons_zero, List.getElem?_cons_succ, List.getElem?_nil, List.set_cons_zero, List.set_cons_succ, Nat.reduceSub, Nat.reduceAdd, Nat.reduceLT, if_true, if_false, reduceIte, Bool.not_true, Bool.not_false, reduceCtorEq]
  refine sp_cons ?_
  simp only [Bool.and_eq_true, Bool.or_eq_true, and_true, true_and, or_true, true_or, and_self, Int.reduceLE, Int.reduceLT, Int.reduceAbs, Nat.reducePow, Int.reduceToNat, Int.reducePow, Option.map_some, Option.map_none, beq_iff_eq, decide_eq_true_eq, bind_ok, toS_ok, lift_some, wp_ok, wp_bind, wp_lift_some, wp_ite, sp_toS, sp_ok, sp_ite, seqQ_nx, seqQ_rt, seqQ_bk, seqQ_ct, calQ_nx, calQ_rt, exs_nil, ex_asg, ex_fst, ex_ixs, ex_exp, ex_ret, ex_retn, ex_ife, ex_rai, ex_pass, ex_brk, ex_cont, ev_slot, ev_int, ev_str, ev_bl, ev_non, ev_con, ev_bin, ev_neg, ev_not, ev_and, ev_or, ev_isN, ev_notN, ev_cmp, ev_chn, ev_ite, ev_tup, ev_lst, ev_ix, ev_sl, ev_call, ev_mk, ev_meth, ev_bif, ev_bm, ev_isi, ev_fld, ev_xf, evT_bif, evT_slot, evT_call, evT_meth, evT_isi, evT_ix, evT_fld, evT_bl, tru_bl, evT_not, evT_and, evT_or, evT_cmp, evT_chn, evT_isN, evT_notN, evC_no, evC_so, evo_no, evo_so, evs_nil, evs_cons, evIt_seq, evIt_rng1, evIt_rng2, evIt_zip, eqD_int, at0, at1, at2, at3, addD_int, if_tt, if_ff, tysD, ty_int_int, ty_int_bool, ty_int_str, ty_int_tuple, ty_int_list, ty_bl_int, ty_bl_bool, ty_bl_str, ty_bl_tuple, ty_bl_list, ty_str_int, ty_str_bool, ty_str_str, ty_str_tuple, ty_str_list, ty_tup_int, ty_tup_bool, ty_tup_str, ty_tup_tuple, ty_tup_list, ty_non_int, ty_non_bool, ty_non_str, ty_non_tuple, ty_non_list, ty_frz_int, ty_frz_bool, ty_frz_str, ty_frz_tuple, ty_frz_list, tq_int, tq_bool, tq_str, tq_tuple, tq_list, slotK, negK, isNK, notNK, isN_non, isN_int, isN_bl, isN_str, isN_tup, isN_ref, andK, orK, truK, blK, intK, binD, intD, cmpD, icmpD, bifD, asgK, bindTg, bindTgs, tupK, lstK, isiK, bmK, fldK, startE, List.map_cons, List.map_nil, List.length_cons, List.length_nil, List.replicate_succ, List.replicate_zero, List.cons_append, List.nil_append, List.getElem?_cons_zero, List.getElem?_cons_succ, List.getElem?_nil, List.set_cons_zero, List.set_cons_succ, Nat.reduceSub, Nat.reduceAdd, Nat.reduceLT, if_true, if_false, reduceIte, Bool.not_true, Bool.not_false, reduceCtorEq, lenD_tup, eqD_int, beq_self_eq_true]
  refine sp_cons ?_
  simp only [Bool.and_eq_true, Bool.or_eq_true, and_true, true_and, or_true, true_or, and_self, Int.reduceLE, Int.reduceLT, Int.reduceAbs, Nat.reducePow, Int.reduceToNat, Int.reducePow, Option.map_some, Option.map_none, beq_iff_eq, decide_eq_true_eq, bind_ok, toS_ok, lift_some, wp_ok, wp_bind, wp_lift_some, wp_ite, sp_toS, sp_ok, sp_ite, seqQ_nx, seqQ_rt, seqQ_bk, seqQ_ct, calQ_nx, calQ_rt, exs_nil, ex_asg, ex_fst, ex_ixs, ex_exp, ex_ret, ex_retn, ex_ife, ex_rai, ex_pass, ex_brk, ex_cont, ev_slot, ev_int, ev_str, ev_bl, ev_non, ev_con, ev_bin, ev_neg, ev_not, ev_and, ev_or, ev_isN, ev_notN, ev_cmp, ev_chn, ev_ite, ev_tup, ev_lst, ev_ix, ev_sl, ev_call, ev_mk, ev_meth, ev_bif, ev_bm, ev_isi, ev_fld, ev_xf, evT_bif, evT_slot, evT_call, evT_meth, evT_isi, evT_ix, evT_fld, evT_bl, tru_bl, evT_not, evT_and, evT_or, evT_cmp, evT_chn, evT_isN, evT_notN, evC_no, evC_so, evo_no, evo_so, evs_nil, evs_cons, evIt_seq, evIt_rng1, evIt_rng2, evIt_zip, eqD_int, at0, at1, at2, at3, addD_int, if_tt, if_ff, tysD, ty_int_int, ty_int_bool, ty_int_str, ty_int_tuple, ty_int_list, ty_bl_int, ty_bl_bool, ty_bl_str, ty_bl_tuple, ty_bl_list, ty_str_int, ty_str_bool, ty_str_str, ty_str_tuple, ty_str_list, ty_tup_int, ty_tup_bool, ty_tup_str, ty_tup_tuple, ty_tup_list, ty_non_int, ty_non_bool, ty_non_str, ty_non_tuple, ty_non_list, ty_frz_int, ty_frz_bool, ty_frz_str, ty_frz_tuple, ty_frz_list, tq_int, tq_bool, tq_str, tq_tuple, tq_list, slotK, negK, isNK, notNK, isN_non, isN_int, isN_bl, isN_str, isN_tup, isN_ref, andK, orK, truK, blK, intK, binD, intD, cmpD, icmpD, bifD, asgK, bindTg, bindTgs, tupK, lstK, isiK, bmK, fldK, startE, List.map_cons, List.map_nil, List.length_cons, List.length_nil, List.replicate_succ, List.replicate_zero, List.cons_append, List.nil_append, List.getElem?_cons_zero, List.getElem?_cons_succ, List.getElem?_nil, List.set_cons_zero, List.set_cons_succ, Nat.reduceSub, Nat.reduceAdd, Nat.reduceLT, if_true, if_false, reduceIte, Bool.not_true, Bool.not_false, reduceCtorEq, ev_lc_wp, zipI_tup]
  refine lc_map (l.map fun d => D.tup [d, d]) (fun _ => .bl true) h (by simp) (by rw [List.length_map]; exact hl) (fun i h' _ => zipN_same rfl rfl) (fun i x h' hx hg => ?_) (fun h' hg => ?_)
  · rw [List.getElem?_map] at hx
    obtain ⟨d, hd, rfl⟩ := Option.map_eq_some_iff.mp hx
    simp only [Bool.and_eq_true, Bool.or_eq_true, and_true, true_and, or_true, true_or, and_self, Int.reduceLE, Int.reduceLT, Int.reduceAbs, Nat.reducePow, Int.reduceToNat, Int.reducePow, Option.map_some, Option.map_none, beq_iff_eq, decide_eq_true_eq, bind_ok, toS_ok, lift_some, wp_ok, wp_bind, wp_lift_some, wp_ite, sp_toS, sp_ok, sp_ite, seqQ_nx, seqQ_rt, seqQ_bk, seqQ_ct, calQ_nx, calQ_rt, exs_nil, ex_asg, ex_fst, ex_ixs, ex_exp, ex_ret, ex_retn, ex_ife, ex_rai, ex_pass, ex_brk, ex_cont, ev_slot, ev_int, ev_str, ev_bl, ev_non, ev_con, ev_bin, ev_neg, ev_not, ev_and, ev_or, ev_isN, ev_notN, ev_cmp, ev_chn, ev_ite, ev_tup, ev_lst, ev_ix, ev_sl, ev_call, ev_mk, ev_meth, ev_bif, ev_bm, ev_isi, ev_fld, ev_xf, evT_bif, evT_slot, evT_call, evT_meth, evT_isi, evT_ix, evT_fld, evT_bl, tru_bl, evT_not, evT_and, evT_or, evT_cmp, evT_chn, evT_isN, evT_notN, evC_no, evC_so, evo_no, evo_so, evs_nil, evs_cons, evIt_seq, evIt_rng1, evIt_rng2, evIt_zip, eqD_int, at0, at1, at2, at3, addD_int, if_tt, if_ff, tysD, ty_int_int, ty_int_bool, ty_int_str, ty_int_tuple, ty_int_list, ty_bl_int, ty_bl_bool, ty_bl_str, ty_bl_tuple, ty_bl_list, ty_str_int, ty_str_bool, ty_str_str, ty_str_tuple, ty_str_list, ty_tup_int, ty_tup_bool, ty_tup_str, ty_tup_tuple, ty_tup_list, ty_non_int, ty_non_bool, ty_non_str, ty_non_tuple, ty_non_list, ty_frz_int, ty_frz_bool, ty_frz_str, ty_frz_tuple, ty_frz_list, tq_int, tq_bool, tq_str, tq_tuple, tq_list, slotK, negK, isNK, notNK, isN_non, isN_int, isN_bl, isN_str, isN_tup, isN_ref, andK, orK, truK, blK, intK, binD, intD, cmpD, icmpD, bifD, asgK, bindTg, bindTgs, tupK, lstK, isiK, bmK, fldK, startE, List.map_cons, List.map_nil, List.length_cons, List.length_nil, List.replicate_succ, List.replicate_zero, List.cons_append, List.nil_append, List.getElem?_cons_zero, List.getElem?_cons_succ, List.getElem?_nil, List.set_cons_zero, List.set_cons_succ, Nat.reduceSub, Nat.reduceAdd, Nat.reduceLT, if_true, if_false, reduceIte, Bool.not_true, Bool.not_false, reduceCtorEq, lcTurn, wipeE, Option.bind_some]
    exact wp_mono (he d (List.mem_of_getElem? hd) h') (fun v h2 ⟨e, g⟩ => ⟨by rw [e], g⟩) fun _ _ z => z
  · have e1 : ((l.map fun d => D.tup [d, d]).map fun _ => D.bl true) = ((l.map fun _ => true).map D.bl) := by
      rw [List.map_map, List.map_map]; rfl
    rw [e1]
    simp only [Bool.and_eq_true, Bool.or_eq_true, and_true, true_and, or_true, true_or, and_self, Int.reduceLE, Int.reduceLT, Int.reduceAbs, Nat.reducePow, Int.reduceToNat, Int.reducePow, Option.map_some, Option.map_none, beq_iff_eq, decide_eq_true_eq, bind_ok, toS_ok, lift_some, wp_ok, wp_bind, wp_lift_some, wp_ite, sp_toS, sp_ok, sp_ite, seqQ_nx, seqQ_rt, seqQ_bk, seqQ_ct, calQ_nx, calQ_rt, exs_nil, ex_asg, ex_fst, ex_ixs, ex_exp, ex_ret, ex_retn, ex_ife, ex_rai, ex_pass, ex_brk, ex_cont, ev_slot, ev_int, ev_str, ev_bl, ev_non, ev_con, ev_bin, ev_neg, ev_not, ev_and, ev_or, ev_isN, ev_notN, ev_cmp, ev_chn, ev_ite, ev_tup, ev_lst, ev_ix, ev_sl, ev_call, ev_mk, ev_meth, ev_bif, ev_bm, ev_isi, ev_fld, ev_xf, evT_bif, evT_slot, evT_call, evT_meth, evT_isi, evT_ix, evT_fld, evT_bl, tru_bl, evT_not, evT_and, evT_or, evT_cmp, evT_chn, evT_isN, evT_notN, evC_no, evC_so, evo_no, evo_so, evs_nil, evs_cons, evIt_seq, evIt_rng1, evIt_rng2, evIt_zip, eqD_int, at0, at1, at2, at3, addD_int, if_tt, if_ff, tysD, ty_int_int, ty_int_bool, ty_int_str, ty_int_tuple, ty_int_list, ty_bl_int, ty_bl_bool, ty_bl_str, ty_bl_tuple, ty_bl_list, ty_str_int, ty_str_bool, ty_str_str, ty_str_tuple, ty_str_list, ty_tup_int, ty_tup_bool, ty_tup_str, ty_tup_tuple, ty_tup_list, ty_non_int, ty_non_bool, ty_non_str, ty_non_tuple, ty_non_list, ty_frz_int, ty_frz_bool, ty_frz_str, ty_frz_tuple, ty_frz_list, tq_int, tq_bool, tq_str, tq_tuple, tq_list, slotK, negK, isNK, notNK, isN_non, isN_int, isN_bl, isN_str, isN_tup, isN_ref, andK, orK, truK, blK, intK, binD, intD, cmpD, icmpD, bifD, asgK, bindTg, bindTgs, tupK, lstK, isiK, bmK, fldK, startE, List.map_cons, List.map_nil, List.length_cons, List.length_nil, List.replicate_succ, List.replicate_zero, List.cons_append, List.nil_append, List.getElem?_cons_zero, List.getElem?_cons_succ, List.getElem?_nil, List.set_cons_zero, List.set_cons_succ, Nat.reduceSub, Nat.reduceAdd, Nat.reduceLT, if_true, if_false, reduceIte, Bool.not_true, Bool.not_false, reduceCtorEq, allD_ref (get_push _ _), all_true]
    exact hg.trans (Gr.push _ _)
theorem eq_lst {k : Nat} {h : Hh} {a b : Nat} {l : List D} (ea : h[a]? = some (.lst l)) (eb : h[b]? = some (.lst l)) (hl : l.length ≤ SL) (he : ∀ d ∈ l, ∀ h', EQ k d h') : (cal tb (k + 1) 1002 [.ref a, .ref b] h).wp (fun v h' => v = .bl true ∧ Gr h h') (fun _ _ => False) := by
  refine cal_wp (fd := d__law_equal) rfl rfl ?_
  unfold d__law_equal b__law_equal
  refine sp_cons ?_
  simp only [Bool.and_eq_true, Bool.or_eq_true, and_true, true_and, or_true, true_or, and_self, Int.reduceLE, Int.reduceLT, Int.reduceAbs, Nat.reducePow, Int.reduceToNat, Int.reducePow, Option.map_some, Option.map_none, beq_iff_eq, decide_eq_true_eq, bind_ok, toS_ok, lift_some, wp_ok, wp_bind, wp_lift_some, wp_ite, sp_toS, sp_ok, sp_ite, seqQ_nx, seqQ_rt, seqQ_bk, seqQ_ct, calQ_nx, calQ_rt, exs_nil, ex_asg, ex_fst, ex_ixs, ex_exp, ex_ret, ex_retn, ex_ife, ex_rai, ex_pass, ex_brk, ex_cont, ev_slot, ev_int, ev_str, ev_bl, ev_non, ev_con, ev_bin, ev_neg, ev_not, ev_and, ev_or, ev_isN, ev_notN, ev_cmp, ev_chn, ev_ite, ev_tup, ev_lst, ev_ix, ev_sl, ev_call, ev_mk, ev_meth, ev_bif, ev_bm, ev_isi, ev_fld, ev_xf, evT_bif, evT_slot, evT_call, evT_meth, evT_isi, evT_ix, evT_fld, evT_bl, tru_bl, evT_not, evT_and, evT_or, evT_cmp, evT_chn, evT_isN, evT_notN, evC_no, evC_so, evo_no, evo_so, evs_nil, evs_cons, evIt_seq, evIt_rng1, evIt_rng2, evIt_zip, eqD_int, at0, at1, at2, at3, addD_int, if_tt, if_ff, tysD, ty_int_int, ty_int_bool, ty_int_str, ty_int_tuple, ty_int_list, ty_bl_int, ty_bl_bool, ty_bl_str, ty_bl_tuple, ty_bl_list, ty_str_int, ty_str_bool, ty_str_str, ty_str_tuple, ty_str_list, ty_tup_int, ty_tup_bool, ty_tup_str, ty_tup_tuple, ty_tup_list, ty_non_int, ty_non_bool, ty_non_str, ty_non_tuple, ty_non_list, ty_frz_int, ty_frz_bool, ty_frz_str, ty_frz_tuple, ty_frz_list, tq_int, tq_bool, tq_str, tq_tuple, tq_list, slotK, negK, isNK, notNK, isN_non, isN_int, isN_bl, isN_str, isN_tup, isN_ref, andK, orK, truK, blK, intK, binD, intD, cmpD, icmpD, bifD, asgK, bindTg, bindTgs, tupK, lstK, isiK, bmK, fldK, startE, List.map_cons, List.map_nil, List.length_cons, List.length_nil, List.replicate_succ, List.replicate_zero, List.cons_append, List.nil_append, List.getElem?_cons_zero, List.getElem?_cons_succ, List.getElem?_nil, List.set_cons_zero, List.set_cons_succ, Nat.reduceSub, Nat.reduceAdd, Nat.reduceLT, if_true, if_false, reduceIte, Bool.not_true, Bool.not_false, reduceCtorEq, ty_lst ea, ty_lst eb]
  refine sp_cons ?_
  simp only [Bool.and_eq_true, Bool.or_eq_true, and_true, true_and, or_true, true_or, and_self, Int.reduceLE, Int.reduceLT, Int.reduceAbs, Nat.reducePow, Int.reduceToNat, Int.reducePow, Option.map_some, Option.map_none, beq_iff_eq, decide_eq_true_eq, bind_ok, toS_ok, lift_some, wp_ok, wp_bind, wp_lift_some, wp_ite, sp_toS, sp_ok, sp_ite, seqQ_nx, seqQ_rt, seqQ_bk, seqQ_ct, calQ_nx, calQ_rt, exs_nil, ex_asg, ex_fst, ex_ixs, ex_exp, ex_ret, ex_retn, ex_ife, ex_rai, ex_pass, ex_brk, ex_cont, ev_slot, ev_int, ev_str, ev_bl, ev_non, ev_con, ev_bin, ev_neg, ev_not, ev_and, ev_or, ev_isN, ev_notN, ev_cmp, ev_chn, ev_ite, ev_tup, ev_lst, ev_ix, ev_sl, ev_call, ev_mk, ev_meth, ev_bif, ev_bm, ev_isi, ev_fld, ev_xf, evT_bif, evT_slot, evT_call, evT_meth, evT_isi, evT_ix, evT_fld, evT_bl, tru_bl, evT_not, evT_and, evT_or, evT_cmp, evT_chn, evT_isN, evT_notN, evC_no, evC_so, evo_no, evo_so, evs_nil, evs_cons, evIt_seq, evIt_rng1, evIt_rng2, evIt_zip, eqD_int, at0, at1, at2, at3, addD_int, if_tt, if_ff, tysD, ty_int_int, ty_int_bool, ty_int_str, ty_int_tuple, ty_int_list, ty_bl_int, ty_bl_bool, ty_bl_str, ty_bl_tuple, ty_bl_list, ty_str_int, ty_str_bool, ty_str_str, ty_str_tuple, ty_str_list, ty_tup_int, ty_tup_bool, ty_tup_str, ty_tup_tuple, ty_tup_list, ty_non_int, ty_non_bool, ty_non_str, ty_non_tuple, ty_non_list, ty_frz_int, ty_frz_bool, ty_frz_str, ty_frz_tuple, ty_frz_list, tq_int, tq_bool, tq_str, tq_tuple, tq_list, slotK, negK, isNK, notNK, isN_non, isN_int, isN_bl, isN_str, isN_tup, isN_ref, andK, orK, truK, blK, intK, binD, intD, cmpD, icmpD, bifD, asgK, bindTg, bindTgs, tupK, lstK, isiK, bmK, fldK, startE, List.map_cons, List.map_nil, List.length_cons, List.length_nil, List.replicate_succ, List.replicate_zero, List.cons_append, List.nil_append, List.getElem?_cons_zero, List.getElem?_cons_succ, List.getElem?_nil, List.set_cons_zero, List.set_cons_succ, Nat.reduceSub, Nat.reduceAdd, Nat.reduceLT, if_true, if_false, reduceIte, Bool.not_true, Bool.not_false, reduceCtorEq, ty_lst ea, ty_lst eb]
  refine sp_cons ?_
  simp only [Bool.and_eq_true, Bool.or_eq_true, and_true, true_and, or_true, true_or, and_self, Int.reduceLE, Int.reduceLT, Int.reduceAbs, Nat.reducePow, Int.reduceToNat, Int.reducePow, Option.map_some, Option.map_none, beq_iff_eq, decide_eq_true_eq, bind_ok, toS_ok, lift_some, wp_ok, wp_bind, wp_lift_some, wp_ite, sp_toS, sp_ok, sp_ite, seqQ_nx, seqQ_rt, seqQ_bk, seqQ_ct, calQ_nx, calQ_rt, exs_nil, ex_asg, ex_fst, ex_ixs, ex_exp, ex_ret, ex_retn, ex_ife, ex_rai, ex_pass, ex_brk, ex_cont, ev_slot, ev_int, ev_str, ev_bl, ev_non, ev_con, ev_bin, ev_neg, ev_not, ev_and, ev_or, ev_isN, ev_notN, ev_cmp, ev_chn, ev_ite, ev_tup, ev_lst, ev_ix, ev_sl, ev_call, ev_mk, ev_meth, ev_bif, ev_bm, ev_isi, ev_fld, ev_xf, evT_bif, evT_slot, evT_call, evT_meth, evT_isi, evT_ix, evT_fld, evT_bl, tru_bl, evT_not, evT_and, evT_or, evT_cmp, evT_chn, evT_isN, evT_notN, evC_no, evC_so, evo_no, evo_so, evs_nil, evs_cons, evIt_seq, evIt_rng1, evIt_rng2, evIt_zip, eqD_int, at0, at1, at2, at3, addD_int, if_tt, if_ff, tysD, ty_int_int, ty_int_bool, ty_int_str, ty_int_tuple, ty_int_list, ty_bl_int, ty_bl_bool, ty_bl_str, ty_bl_tuple, ty_bl_list, ty_str_int, ty_str_bool, ty_str_str, ty_str_tuple, ty_str_list, ty_tup_int, ty_tup_bool, ty_tup_str, ty_tup_tuple, ty_tup_list, ty_non_int, ty_non_bool, ty_non_str, ty_non_tuple, ty_non_list, ty_frz_int, ty_frz_bool, ty_frz_str, ty_frz_tuple, ty_frz_list, tq_int, tq_bool, tq_str, tq_tuple, tq_list, slotK, negK, isNK, notNK, isN_non, isN_int, isN_bl, isN_str, isN_tup, isN_ref, andK, orK, truK, blK, intK, binD, intD, cmpD, icmpD, bifD, asgK, bindTg, bindTgs, tupK, lstK, isiK, bmK, fldK, startE, List.map_cons, List.map_nil, List.length_cons, List.length_nil, List.replicate_succ, List.replicate_zero, List.cons_append, List.nil_append, List.getElem?_cons_zero, List.getElem?_cons_succ, List.getElem?_nil, List.set_cons_zero, List.set_cons_succ, Nat.reduceSub, Nat.reduceAdd, Nat.reduceLT, if_true, if_false, reduceIte, Bool.not_true, Bool.not_false, reduceCtorEq, lenD_ref ea, lenD_ref eb, eqD_int, beq_self_eq_true]
  refine sp_cons ?_
  simp only [Bool.and_eq_true, Bool.or_eq_true, and_true, true_and, or_true, true_or, and_self, Int.reduceLE, Int.reduceLT, Int.reduceAbs, Nat.reducePow, Int.reduceToNat, Int.reducePow, Option.map_some, Option.map_none, beq_iff_eq, decide_eq_true_eq, bind_ok, toS_ok, lift_some, wp_ok, wp_bind, wp_lift_some, wp_ite, sp_toS, sp_ok, sp_ite, seqQ_nx, seqQ_rt, seqQ_bk, seqQ_ct, calQ_nx, calQ_rt, exs_nil, ex_asg, ex_fst, ex_ixs, ex_exp, ex_ret, ex_retn, ex_ife, ex_rai, ex_pass, ex_brk, ex_cont, ev_slot, ev_int, ev_str, ev_bl, ev_non, ev_con, ev_bin, ev_neg, ev_not, ev_and, ev_or, ev_isN, ev_notN, ev_cmp, ev_chn, ev_ite, ev_tup, ev_lst, ev_ix, ev_sl, ev_call, ev_mk, ev_meth, ev_bif, ev_bm, ev_isi, ev_fld, ev_xf, evT_bif, evT_slot, evT_call, evT_meth, evT_isi, evT_ix, evT_fld, evT_bl, tru_bl, evT_not, evT_and, evT_or, evT_cmp, evT_chn, evT_isN, evT_notN, evC_no, evC_so, evo_no, evo_so, evs_nil, evs_cons, evIt_seq, evIt_rng1, evIt_rng2, evIt_zip, eqD_int, at0, at1, at2, at3, addD_int, if_tt, if_ff, tysD, ty_int_int, ty_int_bool, ty_int_str, ty_int_tuple, ty_int_list, ty_bl_int, ty_bl_bool, ty_bl_str, ty_bl_tuple, ty_bl_list, ty_str_int, ty_str_bool, ty_str_str, ty_str_tuple, ty_str_list, ty_tup_int, ty_tup_bool, ty_tup_str, ty_tup_tuple, ty_tup_list, ty_non_int, ty_non_bool, ty_non_str, ty_non_tuple, ty_non_list, ty_frz_int, ty_frz_bool, ty_frz_str, ty_frz_tuple, ty_frz_list, tq_int, tq_bool, tq_str, tq_tuple, tq_list, slotK, negK, isNK, notNK, isN_non, isN_int, isN_bl, isN_str, isN_tup, isN_ref, andK, orK, truK, blK, intK, binD, intD, cmpD, icmpD, bifD, asgK, bindTg, bindTgs, tupK, lstK, isiK, bmK, fldK, startE, List.map_cons, List.map_nil, List.length_cons, List.length_nil, List.replicate_succ, List.replicate_zero, List.cons_append, List.nil_append, List.getElem?_cons_zero, List.getElem?_cons_succ, List.getElem?_nil, List.set_cons_zero, List.set_cons_succ, Nat.reduceSub, Nat.reduceAdd, Nat.reduceLT, if_true, if_false, reduceIte, Bool.not_true, Bool.not_false, reduceCtorEq, ev_lc_wp, zipI_lst ea eb]
  refine lc_map (l.map fun d => D.tup [d, d]) (fun _ => .bl true) h (by simp) (by rw [List.length_map]; exact hl) (fun i h' hg => zipN_same (lstNx_gr ea hg i) (lstNx_gr eb hg i)) (fun i x h' hx hg => ?_) (fun h' hg => ?_)
  · rw [List.getElem?_map] at hx
    obtain ⟨d, hd, rfl⟩ := Option.map_eq_some_iff.mp hx
    simp only [Bool.and_eq_true, Bool.or_eq_true, and_true, true_and, or_true, true_or, and_self, Int.reduceLE, Int.reduceLT, Int.reduceAbs, Nat.reducePow, Int.reduceToNat, Int.reducePow, Option.map_some, Option.map_none, beq_iff_eq, decide_eq_true_eq, bind_ok, toS_ok, lift_some, wp_ok, wp_bind, wp_lift_some, wp_ite, sp_toS, sp_ok, sp_ite, seqQ_nx, seqQ_rt, seqQ_bk, seqQ_ct, calQ_nx, calQ_rt, exs_nil, ex_asg, ex_fst, ex_ixs, ex_exp, ex_ret, ex_retn, ex_ife, ex_rai, ex_pass, ex_brk, ex_cont, ev_slot, ev_int, ev_str, ev_bl, ev_non, ev_con, ev_bin, ev_neg, ev_not, ev_and, ev_or, ev_isN, ev_notN, ev_cmp, ev_chn, ev_ite, ev_tup, ev_lst, ev_ix, ev_sl, ev_call, ev_mk, ev_meth, ev_bif, ev_bm, ev_isi, ev_fld, ev_xf, evT_bif, evT_slot, evT_call, evT_meth, evT_isi, evT_ix, evT_fld, evT_bl, tru_bl, evT_not, evT_and, evT_or, evT_cmp, evT_chn, evT_isN, evT_notN, evC_no, evC_so, evo_no, evo_so, evs_nil, evs_cons, evIt_seq, evIt_rng1, evIt_rng2, evIt_zip, eqD_int, at0, at1, at2, at3, addD_int, if_tt, if_ff, tysD, ty_int_int, ty_int_bool, ty_int_str, ty_int_tuple, ty_int_list, ty_bl_int, ty_bl_bool, ty_bl_str, ty_bl_tuple, ty_bl_list, ty_str_int, ty_str_bool, ty_str_str, ty_str_tuple, ty_str_list, ty_tup_int, ty_tup_bool, ty_tup_str, ty_tup_tuple, ty_tup_list, ty_non_int, ty_non_bool, ty_non_str, ty_non_tuple, ty_non_list, ty_frz_int, ty_frz_bool, ty_frz_str, ty_frz_tuple, ty_frz_list, tq_int, tq_bool, tq_str, tq_tuple, tq_list, slotK, negK, isNK, notNK, isN_non, isN_int, isN_bl, isN_str, isN_tup, isN_ref, andK, orK, truK, blK, intK, binD, intD, cmpD, icmpD, bifD, asgK, bindTg, bindTgs, tupK, lstK, isiK, bmK, fldK, startE, List.map_cons, List.map_nil, List.length_cons, List.length_nil, List.replicate_succ, List.replicate_zero, List.cons_append, List.nil_append, List.getElem?_cons_zero, List.getElem?_cons_succ, List.getElem?_nil, List.set_cons_zero, List.set_cons_succ, Nat.reduceSub, Nat.reduceAdd, Nat.reduceLT, if_true, if_false, reduceIte, Bool.not_true, Bool.not_false, reduceCtorEq, lcTurn, wipeE, Option.bind_some]
    exact wp_mono (he d (List.mem_of_getElem? hd) h') (fun v h2 ⟨e, g⟩ => ⟨by rw [e], g⟩) fun _ _ z => z
  · have e1 : ((l.map fun d => D.tup [d, d]).map fun _ => D.bl true) = ((l.map fun _ => true).map D.bl) := by
      rw [List.map_map, List.map_map]; rfl
    rw [e1]
    simp only [Bool.and_eq_true, Bool.or_eq_true, and_true, true_and, or_true, true_or, and_self, Int.reduceLE, Int.reduceLT, Int.reduceAbs, Nat.reducePow, Int.reduceToNat, Int.reducePow, Option.map_some, Option.map_none, beq_iff_eq, decide_eq_true_eq, bind_ok, toS_ok, lift_some, wp_ok, wp_bind, wp_lift_some, wp_ite, sp_toS, sp_ok, sp_ite, seqQ_nx, seqQ_rt, seqQ_bk, seqQ_ct, calQ_nx, calQ_rt, exs_nil, ex_asg, ex_fst, ex_ixs, ex_exp, ex_ret, ex_retn, ex_ife, ex_rai, ex_pass, ex_brk, ex_cont, ev_slot, ev_int, ev_str, ev_bl, ev_non, ev_con, ev_bin, ev_neg, ev_not, ev_and, ev_or, ev_isN, ev_notN, ev_cmp, ev_chn, ev_ite, ev_tup, ev_lst, ev_ix, ev_sl, ev_call, ev_mk, ev_meth, ev_bif, ev_bm, ev_isi, ev_fld, ev_xf, evT_bif, evT_slot, evT_call, evT_meth, evT_isi, evT_ix, evT_fld, evT_bl, tru_bl, evT_not, evT_and, evT_or, evT_cmp, evT_chn, evT_isN, evT_notN, evC_no, evC_so, evo_no, evo_so, evs_nil, evs_cons, evIt_seq, evIt_rng1, evIt_rng2, evIt_zip, eqD_int, at0, at1, at2, at3, addD_int, if_tt, if_ff, tysD, ty_int_int, ty_int_bool, ty_int_str, ty_int_tuple, ty_int_list, ty_bl_int, ty_bl_bool, ty_bl_str, ty_bl_tuple, ty_bl_list, ty_str_int, ty_str_bool, ty_str_str, ty_str_tuple, ty_str_list, ty_tup_int, ty_tup_bool, ty_tup_str, ty_tup_tuple, ty_tup_list, ty_non_int, ty_non_bool, ty_non_str, ty_non_tuple, ty_non_list, ty_frz_int, ty_frz_bool, ty_frz_str, ty_frz_tuple, ty_frz_list, tq_int, tq_bool, tq_str, tq_tuple, tq_list, slotK, negK, isNK, notNK, isN_non, isN_int, isN_bl, isN_str, isN_tup, isN_ref, andK, orK, truK, blK, intK, binD, intD, cmpD, icmpD, bifD, asgK, bindTg, bindTgs, tupK, lstK, isiK, bmK, fldK, startE, List.map_cons, List.map_nil, List.length_cons, List.length_nil, List.replicate_succ, List.replicate_zero, List.cons_append, List.nil_append, List.getElem?_cons_zero, List.getElem?_cons_succ, List.getElem?_nil, List.set_cons_zero, List.set_cons_succ, Nat.reduceSub, Nat.reduceAdd, Nat.reduceLT, if_true, if_false, reduceIte, Bool.not_true, Bool.not_false, reduceCtorEq, allD_ref (get_push _ _), all_true]
    exact hg.trans (Gr.push _ _)
end MPk77

set_option Elab.async false
set_option linter.all false
set_option maxRecDepth 100000
set_option autoImplicit false
set_option maxHeartbeats 8000000
namespace MPk77
open PySem MP
theorem len_app (x y : Str) : (x ++ y).length = x.length + y.length := by
  show (x.cps ++ y.cps).size = _
  rw [Array.size_append]; rfl
theorem cut_lo {z : Str} {i : Int} (h : 0 ≤ i) : (L2.cutS z none (some i)).length = min i.toNat z.length := by
  unfold L2.cutS Str.length
  have e : HT.sIx z.length z.length (some i) = min i.toNat z.length := by
    have := HT.sIx_nat z.length z.length i.toNat
    rw [Int.toNat_of_nonneg h] at this
    exact this
  simp only [HT.sIx_none, List.drop_zero, Nat.sub_zero, List.size_toArray, List.length_take, Array.length_toList]
  show min (HT.sIx z.length z.length (some i)) z.length = min i.toNat z.length
  rw [e]
  omega
theorem cut_hi {z : Str} {i : Int} (h : 0 ≤ i) : (L2.cutS z (some i) none).length = z.length - min i.toNat z.length := by
  unfold L2.cutS Str.length
  have e : HT.sIx z.length 0 (some i) = min i.toNat z.length := by
    have := HT.sIx_nat z.length 0 i.toNat
    rw [Int.toNat_of_nonneg h] at this
    exact this
  simp only [HT.sIx_none, List.size_toArray, List.length_take, List.length_drop, Array.length_toList]
  show min (z.length - HT.sIx z.length 0 (some i)) (z.length - HT.sIx z.length 0 (some i)) = z.length - min i.toNat z.length
  rw [e]
  omega
theorem slD_str {h : Hh} {w : Str} {lo hi : Option Int} (hz : w.length ≤ 640) : slD (.str w) lo hi h = .ok (.str (L2.cutS w lo hi)) h := by
  unfold slD
  dsimp only
  rw [if_pos (Nat.le_trans hz (by decide))]
theorem addD_str {h : Hh} {x y : Str} (hz : x.length + y.length ≤ 100000) : addD (.str x) (.str y) h = .ok (.str (x ++ y)) h := by
  unfold addD
  dsimp only
  rw [if_pos (Nat.le_trans hz (by decide))]
/-- nothing but the pool has changed -/
def Fr (p : Nat) (h h' : Hh) : Prop := h'.length = h.length ∧ ∀ j, j ≠ p → h'[j]? = h[j]?
theorem Fr.trans {p : Nat} {a b c : Hh} (x : Fr p a b) (y : Fr p b c) : Fr p a c := ⟨y.1.trans x.1, fun j hj => (y.2 j hj).trans (x.2 j hj)⟩
theorem draw {k : Nat} {h : Hh} {p : Nat} {c : Int} (hp : Pool h p) (hc : 0 < c) (hc2 : c < 2 ^ 200) {Q : D → Hh → Prop} {E : Exn → Hh → Prop}
    (q : ∀ (i : Int) (h' : Hh), 0 ≤ i → i < c → Pool h' p → Fr p h h' → Q (.int i) h') : (cal tb (k + 1) 1001 [.ref p, .int c] h).wp Q E :=
  wp_mono (draw_spec hp hc hc2) (fun v h' ⟨i, e, a, b, d, f, g⟩ => by subst e; exact q i h' a b d ⟨f, g⟩) fun _ _ z => z.elim
theorem mutated_spec {k : Nat} {h : Hh} {p : Nat} {w : Str} (hp : Pool h p) (hz : w.length ≤ 600) :
    (cal tb (k + 2) 1005 [.ref p, .str w] h).wp (fun v h' => ∃ w' : Str, v = .str w' ∧ w'.length ≤ w.length + 1 ∧ Pool h' p ∧ Fr p h h') (fun _ _ => False) := by
  refine cal_wp (fd := d__law_mutated) rfl rfl ?_
  unfold d__law_mutated b__law_mutated
  have hz2 : w.length ≤ 640 := Nat.le_trans hz (by decide)
  refine sp_cons ?_
  simp only [Bool.and_eq_true, Bool.or_eq_true, and_true, true_and, or_true, true_or, and_self, Int.reduceLE, Int.reduceLT, Int.reduceAbs, Nat.reducePow, Int.reduceToNat, Int.reducePow, Option.map_some, Option.map_none, beq_iff_eq, decide_eq_true_eq, bind_ok, toS_ok, lift_some, wp_ok, wp_bind, wp_lift_some, wp_ite, sp_toS, sp_ok, sp_ite, seqQ_nx, seqQ_rt, seqQ_bk, seqQ_ct, calQ_nx, calQ_rt, exs_nil, ex_asg, ex_fst, ex_ixs, ex_exp, ex_ret, ex_retn, ex_ife, ex_rai, ex_pass, ex_brk, ex_cont, ev_slot, ev_int, ev_str, ev_bl, ev_non, ev_con, ev_bin, ev_neg, ev_not, ev_and, ev_or, ev_isN, ev_notN, ev_cmp, ev_chn, ev_ite, ev_tup, ev_lst, ev_ix, ev_sl, ev_call, ev_mk, ev_meth, ev_bif, ev_bm, ev_isi, ev_fld, ev_xf, evT_bif, evT_slot, evT_call, evT_meth, evT_isi, evT_ix, evT_fld, evT_bl, tru_bl, evT_not, evT_and, evT_or, evT_cmp, evT_chn, evT_isN, evT_notN, evC_no, evC_so, evo_no, evo_so, evs_nil, evs_cons, evIt_seq, evIt_rng1, evIt_rng2, evIt_zip, eqD_int, at0, at1, at2, at3, addD_int, if_tt, if_ff, tysD, ty_int_int, ty_int_bool, ty_int_str, ty_int_tuple, ty_int_list, ty_bl_int, ty_bl_bool, ty_bl_str, ty_bl_tuple, ty_bl_list, ty_str_int, ty_str_bool, ty_str_str, ty_str_tuple, ty_str_list, ty_tup_int, ty_tup_bool, ty_tup_str, ty_tup_tuple, ty_tup_list, ty_non_int, ty_non_bool, ty_non_str, ty_non_tuple, ty_non_list, ty_frz_int, ty_frz_bool, ty_frz_str, ty_frz_tuple, ty_frz_list, tq_int, tq_bool, tq_str, tq_tuple, tq_list, slotK, negK, isNK, notNK, isN_non, isN_int, isN_bl, isN_str, isN_tup, isN_ref, andK, orK, truK, blK, intK, binD, intD, cmpD, icmpD, bifD, asgK, bindTg, bindTgs, tupK, lstK, isiK, bmK, fldK, startE, List.map_cons, List.map_nil, List.length_cons, List.length_nil, List.replicate_succ, List.replicate_zero, List.cons_append, List.nil_append, List.getElem?_cons_zero, List.getElem?_cons_succ, List.getElem?_nil, List.set_cons_zero, List.set_cons_succ, Nat.reduceSub, Nat.reduceAdd, Nat.reduceLT, if_true, if_false, reduceIte, Bool.not_true, Bool.not_false, reduceCtorEq]
  refine draw hp (by decide) (by decide) fun kind h1 k0 k1 p1 f1 => ?_
  refine sp_cons ?_
  simp only [Bool.and_eq_true, Bool.or_eq_true, and_true, true_and, or_true, true_or, and_self, Int.reduceLE, Int.reduceLT, Int.reduceAbs, Nat.reducePow, Int.reduceToNat, Int.reducePow, Option.map_some, Option.map_none, beq_iff_eq, decide_eq_true_eq, bind_ok, toS_ok, lift_some, wp_ok, wp_bind, wp_lift_some, wp_ite, sp_toS, sp_ok, sp_ite, seqQ_nx, seqQ_rt, seqQ_bk, seqQ_ct, calQ_nx, calQ_rt, exs_nil, ex_asg, ex_fst, ex_ixs, ex_exp, ex_ret, ex_retn, ex_ife, ex_rai, ex_pass, ex_brk, ex_cont, ev_slot, ev_int, ev_str, ev_bl, ev_non, ev_con, ev_bin, ev_neg, ev_not, ev_and, ev_or, ev_isN, ev_notN, ev_cmp, ev_chn, ev_ite, ev_tup, ev_lst, ev_ix, ev_sl, ev_call, ev_mk, ev_meth, ev_bif, ev_bm, ev_isi, ev_fld, ev_xf, evT_bif, evT_slot, evT_call, evT_meth, evT_isi, evT_ix, evT_fld, evT_bl, tru_bl, evT_not, evT_and, evT_or, evT_cmp, evT_chn, evT_isN, evT_notN, evC_no, evC_so, evo_no, evo_so, evs_nil, evs_cons, evIt_seq, evIt_rng1, evIt_rng2, evIt_zip, eqD_int, at0, at1, at2, at3, addD_int, if_tt, if_ff, tysD, ty_int_int, ty_int_bool, ty_int_str, ty_int_tuple, ty_int_list, ty_bl_int, ty_bl_bool, ty_bl_str, ty_bl_tuple, ty_bl_list, ty_str_int, ty_str_bool, ty_str_str, ty_str_tuple, ty_str_list, ty_tup_int, ty_tup_bool, ty_tup_str, ty_tup_tuple, ty_tup_list, ty_non_int, ty_non_bool, ty_non_str, ty_non_tuple, ty_non_list, ty_frz_int, ty_frz_bool, ty_frz_str, ty_frz_tuple, ty_frz_list, tq_int, tq_bool, tq_str, tq_tuple, tq_list, slotK, negK, isNK, notNK, isN_non, isN_int, isN_bl, isN_str, isN_tup, isN_ref, andK, orK, truK, blK, intK, binD, intD, cmpD, icmpD, bifD, asgK, bindTg, bindTgs, tupK, lstK, isiK, bmK, fldK, startE, List.map_cons, List.map_nil, List.length_cons, List.length_nil, List.replicate_succ, List.replicate_zero, List.cons_append, List.nil_append, List.getElem?_cons_zero, List.getElem?_cons_succ, List.getElem?_nil, List.set_cons_zero, List.set_cons_succ, Nat.reduceSub, Nat.reduceAdd, Nat.reduceLT, if_true, if_false, reduceIte, Bool.not_true, Bool.not_false, reduceCtorEq, lenD_str hz2]
  have lw : (w.length : Int) + 1 < 2 ^ 200 := Int.lt_of_le_of_lt (show (w.length : Int) + 1 ≤ 601 by omega) (by decide)
  refine draw p1 (c := (w.length : Int) + 1) (by omega) lw fun at_ h2 a0 a1 p2 f2 => ?_
  refine sp_cons ?_
  simp only [Bool.and_eq_true, Bool.or_eq_true, and_true, true_and, or_true, true_or, and_self, Int.reduceLE, Int.reduceLT, Int.reduceAbs, Nat.reducePow, Int.reduceToNat, Int.reducePow, Option.map_some, Option.map_none, beq_iff_eq, decide_eq_true_eq, bind_ok, toS_ok, lift_some, wp_ok, wp_bind, wp_lift_some, wp_ite, sp_toS, sp_ok, sp_ite, seqQ_nx, seqQ_rt, seqQ_bk, seqQ_ct, calQ_nx, calQ_rt, exs_nil, ex_asg, ex_fst, ex_ixs, ex_exp, ex_ret, ex_retn, ex_ife, ex_rai, ex_pass, ex_brk, ex_cont, ev_slot, ev_int, ev_str, ev_bl, ev_non, ev_con, ev_bin, ev_neg, ev_not, ev_and, ev_or, ev_isN, ev_notN, ev_cmp, ev_chn, ev_ite, ev_tup, ev_lst, ev_ix, ev_sl, ev_call, ev_mk, ev_meth, ev_bif, ev_bm, ev_isi, ev_fld, ev_xf, evT_bif, evT_slot, evT_call, evT_meth, evT_isi, evT_ix, evT_fld, evT_bl, tru_bl, evT_not, evT_and, evT_or, evT_cmp, evT_chn, evT_isN, evT_notN, evC_no, evC_so, evo_no, evo_so, evs_nil, evs_cons, evIt_seq, evIt_rng1, evIt_rng2, evIt_zip, eqD_int, at0, at1, at2, at3, addD_int, if_tt, if_ff, tysD, ty_int_int, ty_int_bool, ty_int_str, ty_int_tuple, ty_int_list, ty_bl_int, ty_bl_bool, ty_bl_str, ty_bl_tuple, ty_bl_list, ty_str_int, ty_str_bool, ty_str_str, ty_str_tuple, ty_str_list, ty_tup_int, ty_tup_bool, ty_tup_str, ty_tup_tuple, ty_tup_list, ty_non_int, ty_non_bool, ty_non_str, ty_non_tuple, ty_non_list, ty_frz_int, ty_frz_bool, ty_frz_str, ty_frz_tuple, ty_frz_list, tq_int, tq_bool, tq_str, tq_tuple, tq_list, slotK, negK, isNK, notNK, isN_non, isN_int, isN_bl, isN_str, isN_tup, isN_ref, andK, orK, truK, blK, intK, binD, intD, cmpD, icmpD, bifD, asgK, bindTg, bindTgs, tupK, lstK, isiK, bmK, fldK, startE, List.map_cons, List.map_nil, List.length_cons, List.length_nil, List.replicate_succ, List.replicate_zero, List.cons_append, List.nil_append, List.getElem?_cons_zero, List.getElem?_cons_succ, List.getElem?_nil, List.set_cons_zero, List.set_cons_succ, Nat.reduceSub, Nat.reduceAdd, Nat.reduceLT, if_true, if_false, reduceIte, Bool.not_true, Bool.not_false, reduceCtorEq]
  refine draw p2 (by decide) (by decide) fun sg h3 s0 s1 p3 f3 => ?_
  have fr : Fr p h h3 := (f1.trans f2).trans f3
  obtain ⟨c, hc⟩ : ∃ c : Nat, ixD (.str "0123456789 .-*\nx+_") (.int sg) h3 = .ok (.str ⟨#[c]⟩) h3 := by
    unfold ixD
    dsimp only
    rw [if_pos (by decide +kernel), at_nat s0 (by
      have e : (("0123456789 .-*\nx+_" : Str)).cps.toList.length = 18 := by decide +kernel
      rw [e]; exact s1)]
    have hlt : sg.toNat < (("0123456789 .-*\nx+_" : Str)).cps.toList.length := by
      have e : (("0123456789 .-*\nx+_" : Str)).cps.toList.length = 18 := by decide +kernel
      rw [e]; omega
    rw [List.getElem?_eq_getElem hlt]
    exact ⟨_, rfl⟩
  have one : (⟨#[c]⟩ : Str).length = 1 := rfl
  have e1 := cut_lo (z := w) a0
  have e2 := cut_hi (z := w) a0
  have e3 := cut_hi (z := w) (i := at_ + 1) (by omega)
  have ha : at_.toNat ≤ w.length := by omega
  simp only [hc, Bool.and_eq_true, Bool.or_eq_true, and_true, true_and, or_true, true_or, and_self, Int.reduceLE, Int.reduceLT, Int.reduceAbs, Nat.reducePow, Int.reduceToNat, Int.reducePow, Option.map_some, Option.map_none, beq_iff_eq, decide_eq_true_eq, bind_ok, toS_ok, lift_some, wp_ok, wp_bind, wp_lift_some, wp_ite, sp_toS, sp_ok, sp_ite, seqQ_nx, seqQ_rt, seqQ_bk, seqQ_ct, calQ_nx, calQ_rt, exs_nil, ex_asg, ex_fst, ex_ixs, ex_exp, ex_ret, ex_retn, ex_ife, ex_rai, ex_pass, ex_brk, ex_cont, ev_slot, ev_int, ev_str, ev_bl, ev_non, ev_con, ev_bin, ev_neg, ev_not, ev_and, ev_or, ev_isN, ev_notN, ev_cmp, ev_chn, ev_ite, ev_tup, ev_lst, ev_ix, ev_sl, ev_call, ev_mk, ev_meth, ev_bif, ev_bm, ev_isi, ev_fld, ev_xf, evT_bif, evT_slot, evT_call, evT_meth, evT_isi, evT_ix, evT_fld, evT_bl, tru_bl, evT_not, evT_and, evT_or, evT_cmp, evT_chn, evT_isN, evT_notN, evC_no, evC_so, evo_no, evo_so, evs_nil, evs_cons, evIt_seq, evIt_rng1, evIt_rng2, evIt_zip, eqD_int, at0, at1, at2, at3, addD_int, if_tt, if_ff, tysD, ty_int_int, ty_int_bool, ty_int_str, ty_int_tuple, ty_int_list, ty_bl_int, ty_bl_bool, ty_bl_str, ty_bl_tuple, ty_bl_list, ty_str_int, ty_str_bool, ty_str_str, ty_str_tuple, ty_str_list, ty_tup_int, ty_tup_bool, ty_tup_str, ty_tup_tuple, ty_tup_list, ty_non_int, ty_non_bool, ty_non_str, ty_non_tuple, ty_non_list, ty_frz_int, ty_frz_bool, ty_frz_str, ty_frz_tuple, ty_frz_list, tq_int, tq_bool, tq_str, tq_tuple, tq_list, slotK, negK, isNK, notNK, isN_non, isN_int, isN_bl, isN_str, isN_tup, isN_ref, andK, orK, truK, blK, intK, binD, intD, cmpD, icmpD, bifD, asgK, bindTg, bindTgs, tupK, lstK, isiK, bmK, fldK, startE, List.map_cons, List.map_nil, List.length_cons, List.length_nil, List.replicate_succ, List.replicate_zero, List.cons_append, List.nil_append, List.getElem?_cons_zero, List.getElem?_cons_succ, List.getElem?_nil, List.set_cons_zero, List.set_cons_succ, Nat.reduceSub, Nat.reduceAdd, Nat.reduceLT, if_true, if_false, reduceIte, Bool.not_true, Bool.not_false, reduceCtorEq]
  refine sp_cons ?_
  simp only [Bool.and_eq_true, Bool.or_eq_true, and_true, true_and, or_true, true_or, and_self, Int.reduceLE, Int.reduceLT, Int.reduceAbs, Nat.reducePow, Int.reduceToNat, Int.reducePow, Option.map_some, Option.map_none, beq_iff_eq, decide_eq_true_eq, bind_ok, toS_ok, lift_some, wp_ok, wp_bind, wp_lift_some, wp_ite, sp_toS, sp_ok, sp_ite, seqQ_nx, seqQ_rt, seqQ_bk, seqQ_ct, calQ_nx, calQ_rt, exs_nil, ex_asg, ex_fst, ex_ixs, ex_exp, ex_ret, ex_retn, ex_ife, ex_rai, ex_pass, ex_brk, ex_cont, ev_slot, ev_int, ev_str, ev_bl, ev_non, ev_con, ev_bin, ev_neg, ev_not, ev_and, ev_or, ev_isN, ev_notN, ev_cmp, ev_chn, ev_ite, ev_tup, ev_lst, ev_ix, ev_sl, ev_call, ev_mk, ev_meth, ev_bif, ev_bm, ev_isi, ev_fld, ev_xf, evT_bif, evT_slot, evT_call, evT_meth, evT_isi, evT_ix, evT_fld, evT_bl, tru_bl, evT_not, evT_and, evT_or, evT_cmp, evT_chn, evT_isN, evT_notN, evC_no, evC_so, evo_no, evo_so, evs_nil, evs_cons, evIt_seq, evIt_rng1, evIt_rng2, evIt_zip, eqD_int, at0, at1, at2, at3, addD_int, if_tt, if_ff, tysD, ty_int_int, ty_int_bool, ty_int_str, ty_int_tuple, ty_int_list, ty_bl_int, ty_bl_bool, ty_bl_str, ty_bl_tuple, ty_bl_list, ty_str_int, ty_str_bool, ty_str_str, ty_str_tuple, ty_str_list, ty_tup_int, ty_tup_bool, ty_tup_str, ty_tup_tuple, ty_tup_list, ty_non_int, ty_non_bool, ty_non_str, ty_non_tuple, ty_non_list, ty_frz_int, ty_frz_bool, ty_frz_str, ty_frz_tuple, ty_frz_list, tq_int, tq_bool, tq_str, tq_tuple, tq_list, slotK, negK, isNK, notNK, isN_non, isN_int, isN_bl, isN_str, isN_tup, isN_ref, andK, orK, truK, blK, intK, binD, intD, cmpD, icmpD, bifD, asgK, bindTg, bindTgs, tupK, lstK, isiK, bmK, fldK, startE, List.map_cons, List.map_nil, List.length_cons, List.length_nil, List.replicate_succ, List.replicate_zero, List.cons_append, List.nil_append, List.getElem?_cons_zero, List.getElem?_cons_succ, List.getElem?_nil, List.set_cons_zero, List.set_cons_succ, Nat.reduceSub, Nat.reduceAdd, Nat.reduceLT, if_true, if_false, reduceIte, Bool.not_true, Bool.not_false, reduceCtorEq, eqD_int]
  have q0 : ∀ h, addD (.str (L2.cutS w none (some at_))) (.str (L2.cutS w (some (at_ + 1)) none)) h = .ok (.str (L2.cutS w none (some at_) ++ L2.cutS w (some (at_ + 1)) none)) h := fun h => addD_str (by omega)
  have q1 : ∀ h, addD (.str (L2.cutS w none (some at_))) (.str ⟨#[c]⟩) h = .ok (.str (L2.cutS w none (some at_) ++ ⟨#[c]⟩)) h := fun h => addD_str (by omega)
  have l1 := len_app (L2.cutS w none (some at_)) ⟨#[c]⟩
  have q2 : ∀ h, addD (.str (L2.cutS w none (some at_) ++ ⟨#[c]⟩)) (.str (L2.cutS w (some at_) none)) h = .ok (.str (L2.cutS w none (some at_) ++ ⟨#[c]⟩ ++ L2.cutS w (some at_) none)) h := fun h => addD_str (by omega)
  have q3 : ∀ h, addD (.str (L2.cutS w none (some at_) ++ ⟨#[c]⟩)) (.str (L2.cutS w (some (at_ + 1)) none)) h = .ok (.str (L2.cutS w none (some at_) ++ ⟨#[c]⟩ ++ L2.cutS w (some (at_ + 1)) none)) h := fun h => addD_str (by omega)
  split
  · refine sp_cons ?_
    simp only [Bool.and_eq_true, Bool.or_eq_true, and_true, true_and, or_true, true_or, and_self, Int.reduceLE, Int.reduceLT, Int.reduceAbs, Nat.reducePow, Int.reduceToNat, Int.reducePow, Option.map_some, Option.map_none, beq_iff_eq, decide_eq_true_eq, bind_ok, toS_ok, lift_some, wp_ok, wp_bind, wp_lift_some, wp_ite, sp_toS, sp_ok, sp_ite, seqQ_nx, seqQ_rt, seqQ_bk, seqQ_ct, calQ_nx, calQ_rt, exs_nil, ex_asg, ex_fst, ex_ixs, ex_exp, ex_ret, ex_retn, ex_ife, ex_rai, ex_pass, ex_brk, ex_cont, ev_slot, ev_int, ev_str, ev_bl, ev_non, ev_con, ev_bin, ev_neg, ev_not, ev_and, ev_or, ev_isN, ev_notN, ev_cmp, ev_chn, ev_ite, ev_tup, ev_lst, ev_ix, ev_sl, ev_call, ev_mk, ev_meth, ev_bif, ev_bm, ev_isi, ev_fld, ev_xf, evT_bif, evT_slot, evT_call, evT_meth, evT_isi, evT_ix, evT_fld, evT_bl, tru_bl, evT_not, evT_and, evT_or, evT_cmp, evT_chn, evT_isN, evT_notN, evC_no, evC_so, evo_no, evo_so, evs_nil, evs_cons, evIt_seq, evIt_rng1, evIt_rng2, evIt_zip, eqD_int, at0, at1, at2, at3, addD_int, if_tt, if_ff, tysD, ty_int_int, ty_int_bool, ty_int_str, ty_int_tuple, ty_int_list, ty_bl_int, ty_bl_bool, ty_bl_str, ty_bl_tuple, ty_bl_list, ty_str_int, ty_str_bool, ty_str_str, ty_str_tuple, ty_str_list, ty_tup_int, ty_tup_bool, ty_tup_str, ty_tup_tuple, ty_tup_list, ty_non_int, ty_non_bool, ty_non_str, ty_non_tuple, ty_non_list, ty_frz_int, ty_frz_bool, ty_frz_str, ty_frz_tuple, ty_frz_list, tq_int, tq_bool, tq_str, tq_tuple, tq_list, slotK, negK, isNK, notNK, isN_non, isN_int, isN_bl, isN_str, isN_tup, isN_ref, andK, orK, truK, blK, intK, binD, intD, cmpD, icmpD, bifD, asgK, bindTg, bindTgs, tupK, lstK, isiK, bmK, fldK, startE, List.map_cons, List.map_nil, List.length_cons, List.length_nil, List.replicate_succ, List.replicate_zero, List.cons_append, List.nil_append, List.getElem?_cons_zero, List.getElem?_cons_succ, List.getElem?_nil, List.set_cons_zero, List.set_cons_succ, Nat.reduceSub, Nat.reduceAdd, Nat.reduceLT, if_true, if_false, reduceIte, Bool.not_true, Bool.not_false, reduceCtorEq, slD_str hz2, q0]
    exact ⟨_, rfl, by rw [len_app]; omega, p3, fr⟩
  · refine sp_cons ?_
    simp only [Bool.and_eq_true, Bool.or_eq_true, and_true, true_and, or_true, true_or, and_self, Int.reduceLE, Int.reduceLT, Int.reduceAbs, Nat.reducePow, Int.reduceToNat, Int.reducePow, Option.map_some, Option.map_none, beq_iff_eq, decide_eq_true_eq, bind_ok, toS_ok, lift_some, wp_ok, wp_bind, wp_lift_some, wp_ite, sp_toS, sp_ok, sp_ite, seqQ_nx, seqQ_rt, seqQ_bk, seqQ_ct, calQ_nx, calQ_rt, exs_nil, ex_asg, ex_fst, ex_ixs, ex_exp, ex_ret, ex_retn, ex_ife, ex_rai, ex_pass, ex_brk, ex_cont, ev_slot, ev_int, ev_str, ev_bl, ev_non, ev_con, ev_bin, ev_neg, ev_not, ev_and, ev_or, ev_isN, ev_notN, ev_cmp, ev_chn, ev_ite, ev_tup, ev_lst, ev_ix, ev_sl, ev_call, ev_mk, ev_meth, ev_bif, ev_bm, ev_isi, ev_fld, ev_xf, evT_bif, evT_slot, evT_call, evT_meth, evT_isi, evT_ix, evT_fld, evT_bl, tru_bl, evT_not, evT_and, evT_or, evT_cmp, evT_chn, evT_isN, evT_notN, evC_no, evC_so, evo_no, evo_so, evs_nil, evs_cons, evIt_seq, evIt_rng1, evIt_rng2, evIt_zip, eqD_int, at0, at1, at2, at3, addD_int, if_tt, if_ff, tysD, ty_int_int, ty_int_bool, ty_int_str, ty_int_tuple, ty_int_list, ty_bl_int, ty_bl_bool, ty_bl_str, ty_bl_tuple, ty_bl_list, ty_str_int, ty_str_bool, ty_str_str, ty_str_tuple, ty_str_list, ty_tup_int, ty_tup_bool, ty_tup_str, ty_tup_tuple, ty_tup_list, ty_non_int, ty_non_bool, ty_non_str, ty_non_tuple, ty_non_list, ty_frz_int, ty_frz_bool, ty_frz_str, ty_frz_tuple, ty_frz_list, tq_int, tq_bool, tq_str, tq_tuple, tq_list, slotK, negK, isNK, notNK, isN_non, isN_int, isN_bl, isN_str, isN_tup, isN_ref, andK, orK, truK, blK, intK, binD, intD, cmpD, icmpD, bifD, asgK, bindTg, bindTgs, tupK, lstK, isiK, bmK, fldK, startE, List.map_cons, List.map_nil, List.length_cons, List.length_nil, List.replicate_succ, List.replicate_zero, List.cons_append, List.nil_append, List.getElem?_cons_zero, List.getElem?_cons_succ, List.getElem?_nil, List.set_cons_zero, List.set_cons_succ, Nat.reduceSub, Nat.reduceAdd, Nat.reduceLT, if_true, if_false, reduceIte, Bool.not_true, Bool.not_false, reduceCtorEq, eqD_int]
    split
    · refine sp_cons ?_
      simp only [Bool.and_eq_true, Bool.or_eq_true, and_true, true_and, or_true, true_or, and_self, Int.reduceLE, Int.reduceLT, Int.reduceAbs, Nat.reducePow, Int.reduceToNat, Int.reducePow, Option.map_some, Option.map_none, beq_iff_eq, decide_eq_true_eq, bind_ok, toS_ok, lift_some, wp_ok, wp_bind, wp_lift_some, wp_ite, sp_toS, sp_ok, sp_ite, seqQ_nx, seqQ_rt, seqQ_bk, seqQ_ct, calQ_nx, calQ_rt, exs_nil, ex_asg, ex_fst, ex_ixs, ex_exp, ex_ret, ex_retn, ex_ife, ex_rai, ex_pass, ex_brk, ex_cont, ev_slot, ev_int, ev_str, ev_bl, ev_non, ev_con, ev_bin, ev_neg, ev_not, ev_and, ev_or, ev_isN, ev_notN, ev_cmp, ev_chn, ev_ite, ev_tup, ev_lst, ev_ix, ev_sl, ev_call, ev_mk, ev_meth, ev_bif, ev_bm, ev_isi, ev_fld, ev_xf, evT_bif, evT_slot, evT_call, evT_meth, evT_isi, evT_ix, evT_fld, evT_bl, tru_bl, evT_not, evT_and, evT_or, evT_cmp, evT_chn, evT_isN, evT_notN, evC_no, evC_so, evo_no, evo_so, evs_nil, evs_cons, evIt_seq, evIt_rng1, evIt_rng2, evIt_zip, eqD_int, at0, at1, at2, at3, addD_int, if_tt, if_ff, tysD, ty_int_int, ty_int_bool, ty_int_str, ty_int_tuple, ty_int_list, ty_bl_int, ty_bl_bool, ty_bl_str, ty_bl_tuple, ty_bl_list, ty_str_int, ty_str_bool, ty_str_str, ty_str_tuple, ty_str_list, ty_tup_int, ty_tup_bool, ty_tup_str, ty_tup_tuple, ty_tup_list, ty_non_int, ty_non_bool, ty_non_str, ty_non_tuple, ty_non_list, ty_frz_int, ty_frz_bool, ty_frz_str, ty_frz_tuple, ty_frz_list, tq_int, tq_bool, tq_str, tq_tuple, tq_list, slotK, negK, isNK, notNK, isN_non, isN_int, isN_bl, isN_str, isN_tup, isN_ref, andK, orK, truK, blK, intK, binD, intD, cmpD, icmpD, bifD, asgK, bindTg, bindTgs, tupK, lstK, isiK, bmK, fldK, startE, List.map_cons, List.map_nil, List.length_cons, List.length_nil, List.replicate_succ, List.replicate_zero, List.cons_append, List.nil_append, List.getElem?_cons_zero, List.getElem?_cons_succ, List.getElem?_nil, List.set_cons_zero, List.set_cons_succ, Nat.reduceSub, Nat.reduceAdd, Nat.reduceLT, if_true, if_false, reduceIte, Bool.not_true, Bool.not_false, reduceCtorEq, slD_str hz2, q1, q2]
      exact ⟨_, rfl, by rw [len_app]; omega, p3, fr⟩
    · refine sp_cons ?_
      simp only [Bool.and_eq_true, Bool.or_eq_true, and_true, true_and, or_true, true_or, and_self, Int.reduceLE, Int.reduceLT, Int.reduceAbs, Nat.reducePow, Int.reduceToNat, Int.reducePow, Option.map_some, Option.map_none, beq_iff_eq, decide_eq_true_eq, bind_ok, toS_ok, lift_some, wp_ok, wp_bind, wp_lift_some, wp_ite, sp_toS, sp_ok, sp_ite, seqQ_nx, seqQ_rt, seqQ_bk, seqQ_ct, calQ_nx, calQ_rt, exs_nil, ex_asg, ex_fst, ex_ixs, ex_exp, ex_ret, ex_retn, ex_ife, ex_rai, ex_pass, ex_brk, ex_cont, ev_slot, ev_int, ev_str, ev_bl, ev_non, ev_con, ev_bin, ev_neg, ev_not, ev_and, ev_or, ev_isN, ev_notN, ev_cmp, ev_chn, ev_ite, ev_tup, ev_lst, ev_ix, ev_sl, ev_call, ev_mk, ev_meth, ev_bif, ev_bm, ev_isi, ev_fld, ev_xf, evT_bif, evT_slot, evT_call, evT_meth, evT_isi, evT_ix, evT_fld, evT_bl, tru_bl, evT_not, evT_and, evT_or, evT_cmp, evT_chn, evT_isN, evT_notN, evC_no, evC_so, evo_no, evo_so, evs_nil, evs_cons, evIt_seq, evIt_rng1, evIt_rng2, evIt_zip, eqD_int, at0, at1, at2, at3, addD_int, if_tt, if_ff, tysD, ty_int_int, ty_int_bool, ty_int_str, ty_int_tuple, ty_int_list, ty_bl_int, ty_bl_bool, ty_bl_str, ty_bl_tuple, ty_bl_list, ty_str_int, ty_str_bool, ty_str_str, ty_str_tuple, ty_str_list, ty_tup_int, ty_tup_bool, ty_tup_str, ty_tup_tuple, ty_tup_list, ty_non_int, ty_non_bool, ty_non_str, ty_non_tuple, ty_non_list, ty_frz_int, ty_frz_bool, ty_frz_str, ty_frz_tuple, ty_frz_list, tq_int, tq_bool, tq_str, tq_tuple, tq_list, slotK, negK, isNK, notNK, isN_non, isN_int, isN_bl, isN_str, isN_tup, isN_ref, andK, orK, truK, blK, intK, binD, intD, cmpD, icmpD, bifD, asgK, bindTg, bindTgs, tupK, lstK, isiK, bmK, fldK, startE, List.map_cons, List.map_nil, List.length_cons, List.length_nil, List.replicate_succ, List.replicate_zero, List.cons_append, List.nil_append, List.getElem?_cons_zero, List.getElem?_cons_succ, List.getElem?_nil, List.set_cons_zero, List.set_cons_succ, Nat.reduceSub, Nat.reduceAdd, Nat.reduceLT, if_true, if_false, reduceIte, Bool.not_true, Bool.not_false, reduceCtorEq, eqD_int]
      split
      · refine sp_cons ?_
        simp only [Bool.and_eq_true, Bool.or_eq_true, and_true, true_and, or_true, true_or, and_self, Int.reduceLE, Int.reduceLT, Int.reduceAbs, Nat.reducePow, Int.reduceToNat, Int.reducePow, Option.map_some, Option.map_none, beq_iff_eq, decide_eq_true_eq, bind_ok, toS_ok, lift_some, wp_ok, wp_bind, wp_lift_some, wp_ite, sp_toS, sp_ok, sp_ite, seqQ_nx, seqQ_rt, seqQ_bk, seqQ_ct, calQ_nx, calQ_rt, exs_nil, ex_asg, ex_fst, ex_ixs, ex_exp, ex_ret, ex_retn, ex_ife, ex_rai, ex_pass, ex_brk, ex_cont, ev_slot, ev_int, ev_str, ev_bl, ev_non, ev_con, ev_bin, ev_neg, ev_not, ev_and, ev_or, ev_isN, ev_notN, ev_cmp, ev_chn, ev_ite, ev_tup, ev_lst, ev_ix, ev_sl, ev_call, ev_mk, ev_meth, ev_bif, ev_bm, ev_isi, ev_fld, ev_xf, evT_bif, evT_slot, evT_call, evT_meth, evT_isi, evT_ix, evT_fld, evT_bl, tru_bl, evT_not, evT_and, evT_or, evT_cmp, evT_chn, evT_isN, evT_notN, evC_no, evC_so, evo_no, evo_so, evs_nil, evs_cons, evIt_seq, evIt_rng1, evIt_rng2, evIt_zip, eqD_int, at0, at1, at2, at3, addD_int, if_tt, if_ff, tysD, ty_int_int, ty_int_bool, ty_int_str, ty_int_tuple, ty_int_list, ty_bl_int, ty_bl_bool, ty_bl_str, ty_bl_tuple, ty_bl_list, ty_str_int, ty_str_bool, ty_str_str, ty_str_tuple, ty_str_list, ty_tup_int, ty_tup_bool, ty_tup_str, ty_tup_tuple, ty_tup_list, ty_non_int, ty_non_bool, ty_non_str, ty_non_tuple, ty_non_list, ty_frz_int, ty_frz_bool, ty_frz_str, ty_frz_tuple, ty_frz_list, tq_int, tq_bool, tq_str, tq_tuple, tq_list, slotK, negK, isNK, notNK, isN_non, isN_int, isN_bl, isN_str, isN_tup, isN_ref, andK, orK, truK, blK, intK, binD, intD, cmpD, icmpD, bifD, asgK, bindTg, bindTgs, tupK, lstK, isiK, bmK, fldK, startE, List.map_cons, List.map_nil, List.length_cons, List.length_nil, List.replicate_succ, List.replicate_zero, List.cons_append, List.nil_append, List.getElem?_cons_zero, List.getElem?_cons_succ, List.getElem?_nil, List.set_cons_zero, List.set_cons_succ, Nat.reduceSub, Nat.reduceAdd, Nat.reduceLT, if_true, if_false, reduceIte, Bool.not_true, Bool.not_false, reduceCtorEq, slD_str hz2, q1, q3]
        exact ⟨_, rfl, by rw [len_app]; omega, p3, fr⟩
      · refine sp_cons ?_
        simp only [Bool.and_eq_true, Bool.or_eq_true, and_true, true_and, or_true, true_or, and_self, Int.reduceLE, Int.reduceLT, Int.reduceAbs, Nat.reducePow, Int.reduceToNat, Int.reducePow, Option.map_some, Option.map_none, beq_iff_eq, decide_eq_true_eq, bind_ok, toS_ok, lift_some, wp_ok, wp_bind, wp_lift_some, wp_ite, sp_toS, sp_ok, sp_ite, seqQ_nx, seqQ_rt, seqQ_bk, seqQ_ct, calQ_nx, calQ_rt, exs_nil, ex_asg, ex_fst, ex_ixs, ex_exp, ex_ret, ex_retn, ex_ife, ex_rai, ex_pass, ex_brk, ex_cont, ev_slot, ev_int, ev_str, ev_bl, ev_non, ev_con, ev_bin, ev_neg, ev_not, ev_and, ev_or, ev_isN, ev_notN, ev_cmp, ev_chn, ev_ite, ev_tup, ev_lst, ev_ix, ev_sl, ev_call, ev_mk, ev_meth, ev_bif, ev_bm, ev_isi, ev_fld, ev_xf, evT_bif, evT_slot, evT_call, evT_meth, evT_isi, evT_ix, evT_fld, evT_bl, tru_bl, evT_not, evT_and, evT_or, evT_cmp, evT_chn, evT_isN, evT_notN, evC_no, evC_so, evo_no, evo_so, evs_nil, evs_cons, evIt_seq, evIt_rng1, evIt_rng2, evIt_zip, eqD_int, at0, at1, at2, at3, addD_int, if_tt, if_ff, tysD, ty_int_int, ty_int_bool, ty_int_str, ty_int_tuple, ty_int_list, ty_bl_int, ty_bl_bool, ty_bl_str, ty_bl_tuple, ty_bl_list, ty_str_int, ty_str_bool, ty_str_str, ty_str_tuple, ty_str_list, ty_tup_int, ty_tup_bool, ty_tup_str, ty_tup_tuple, ty_tup_list, ty_non_int, ty_non_bool, ty_non_str, ty_non_tuple, ty_non_list, ty_frz_int, ty_frz_bool, ty_frz_str, ty_frz_tuple, ty_frz_list, tq_int, tq_bool, tq_str, tq_tuple, tq_list, slotK, negK, isNK, notNK, isN_non, isN_int, isN_bl, isN_str, isN_tup, isN_ref, andK, orK, truK, blK, intK, binD, intD, cmpD, icmpD, bifD, asgK, bindTg, bindTgs, tupK, lstK, isiK, bmK, fldK, startE, List.map_cons, List.map_nil, List.length_cons, List.length_nil, List.replicate_succ, List.replicate_zero, List.cons_append, List.nil_append, List.getElem?_cons_zero, List.getElem?_cons_succ, List.getElem?_nil, List.set_cons_zero, List.set_cons_succ, Nat.reduceSub, Nat.reduceAdd, Nat.reduceLT, if_true, if_false, reduceIte, Bool.not_true, Bool.not_false, reduceCtorEq]
        exact ⟨_, rfl, by omega, p3, fr⟩
end MPk77

set_option Elab.async false
set_option linter.all false
set_option maxRecDepth 100000
set_option autoImplicit false
set_option maxHeartbeats 8000000
namespace MPk77
open PySem MP
theorem wp_ends {r : Rs D} (x : r.wp (fun v _ => v = .bl true) (fun _ _ => False)) : ∃ h', r = .ok (.bl true) h' := by
  cases r with
  | ok a h =>
    have x' : a = .bl true := x
    exact ⟨h, by rw [x']⟩
  | ex e h => exact False.elim x
  | st => exact False.elim x
theorem listOf_frz {h : Hh} {l : List D} : listOfD [.frz l] h = .ok (.ref h.length) (h ++ [.lst l]) := rfl
def tailOf : Nat → Ss → Ss
  | 0, s => s
  | n + 1, .cons _ s => tailOf n s
  | _ + 1, .nil => .nil
/-- the words so far, at 2 -/
def Words (h : Hh) (m : Nat) : Prop := ∃ ws : List Str, h[2]? = some (.lst (ws.map D.str)) ∧ ws.length = m ∧ ∀ w ∈ ws, w.length ≤ 31
theorem Pool.push {h : Hh} {p : Nat} {o : Ob} (x : Pool h p) : Pool (h ++ [o]) p := by
  obtain ⟨q, l, i, b, m, e1, e2, r⟩ := x
  exact ⟨q, l, i, b, m, (Gr.push h o).get e1, (Gr.push h o).get e2, r⟩
theorem Pool.set {h : Hh} {o : Ob} (x : Pool h 1) : Pool (h.set 2 o) 1 := by
  obtain ⟨q, l, i, b, m, e1, e2, r1, r2, r3, r4, r5⟩ := x
  exact ⟨q, l, i, b, m, set_get_ne e1 (by decide), set_get_ne e2 (by omega), r1, r2, r3, r4, r5⟩
def Inv (h : Hh) (m : Nat) : Prop := Pool h 1 ∧ Words h m
theorem Inv.fr {h h' : Hh} {m : Nat} (x : Inv h m) (p : Pool h' 1) (f : Fr 1 h h') : Inv h' m := by
  obtain ⟨_, ws, e, r⟩ := x
  exact ⟨p, ws, by rw [f.2 2 (by decide)]; exact e, r⟩
theorem Inv.push {h : Hh} {m : Nat} {o : Ob} (x : Inv h m) : Inv (h ++ [o]) m := by
  obtain ⟨p, ws, e, r⟩ := x
  exact ⟨p.push, ws, (Gr.push h o).get e, r⟩
/-- the turns of a range -/
theorem rng_nxt {n : Nat} (i : Nat) : (if i < n then some (D.int (0 + (i : Int))) else none) = ((List.range n).map fun (j : Nat) => D.int (j : Int))[i]? := by
  by_cases hi : i < n
  · rw [if_pos hi, List.getElem?_map, List.getElem?_range hi, Int.zero_add]; rfl
  · rw [if_neg hi, List.getElem?_map, List.getElem?_eq_none (by simpa using hi)]; rfl
theorem itRng_ok {h : Hh} {n : Int} (h0 : 0 ≤ n) (h1 : n < 1000) : itRng 0 n h = .ok ⟨n.toNat, fun _ i => some ((List.range n.toNat).map fun (j : Nat) => D.int (j : Int))[i]?⟩ h := by
  unfold itRng
  rw [if_pos (by simp only [Bool.and_eq_true, decide_eq_true_eq]; omega)]
  have e : (n - 0).toNat = n.toNat := by rw [Int.sub_zero]
  simp only [e, rng_nxt]
theorem str_len {i : Int} (h0 : 0 ≤ i) (h1 : i < 10 ^ 30) : (Str.ofString (toString i)).length ≤ 31 := by
  have := int_text_length_le10 (a := i) (k := 30) (by decide) (by omega)
  rw [ofString_length]
  exact this
theorem isLst_ref {h : Hh} {n : Nat} {l : List D} (e : h[n]? = some (.lst l)) : isLst h (.ref n) = true := by
  unfold isLst
  dsimp only
  rw [e]
theorem append_ref {h : Hh} {n : Nat} {l : List D} {d : D} (e : h[n]? = some (.lst l)) (hl : l.length < SL) : appendD (.ref n) [d] h = .ok .non (h.set n (.lst (l ++ [d]))) := by
  unfold appendD
  dsimp only
  rw [e]
  dsimp only
  rw [if_pos hl]
theorem strOf_ok {h : Hh} {i : Int} (h0 : 0 ≤ i) (h1 : i < 10 ^ 30) : strOfD [.int i] h = .ok (.str (Str.ofString (toString i))) h := by
  unfold strOfD
  dsimp only
  rw [if_pos]
  by_cases hc0 : i.natAbs = 0
  · rw [hc0]; decide
  · rw [Nat.log2_lt hc0]
    have : i.natAbs < 10 ^ 30 := by omega
    exact Nat.lt_of_lt_of_le this (Nat.le_trans (by decide : 10 ^ 30 ≤ 2 ^ 100) (Nat.pow_le_pow_right (by decide) (by decide)))
/-- the words are drawn -/
theorem words_wp {sc : D} {h : Hh} {Q : Fl → Hh → Prop} {E0 : Exn → PEnv → Hh → Prop} (x : Inv h 0)
    (q : ∀ h' m k, Inv h' m → 1 ≤ m → m ≤ 9 → Q (.nx [some sc, some (.ref 1), some (.ref 2), k, none, none, none, none, none]) h') :
    (ex (cal tb 19) tb (S.for_ (Tg.nm 3) (It.rng1 (E.bin Bop.add (E.int 1) (E.call 1001 (Es.cons (E.slot 1) (Es.cons (E.int 9) Es.nil)))))
            (Ss.cons (S.exp (E.bm Bm.append (E.slot 2) (Es.cons (E.bif Bf.str (Es.cons (E.call 1001 (Es.cons (E.slot 1) (Es.cons
                              ((E.lst (Es.cons (E.int 10) (Es.cons (E.bin Bop.pow (E.int 10) (E.int 30)) Es.nil))).ix (E.call 1001 (Es.cons (E.slot 1) (Es.cons (E.int 2) Es.nil)))) Es.nil))) Es.nil)) Es.nil)))
              Ss.nil)) none [some sc, some (.ref 1), some (.ref 2), none, none, none, none, none, none] h).wp Q E0 := by
  rw [ex_for, sp_toS]
  simp only [Bool.and_eq_true, Bool.or_eq_true, and_true, true_and, or_true, true_or, and_self, Int.reduceLE, Int.reduceLT, Int.reduceAbs, Nat.reducePow, Int.reduceToNat, Int.reducePow, Option.map_some, Option.map_none, beq_iff_eq, decide_eq_true_eq, bind_ok, toS_ok, lift_some, wp_ok, wp_bind, wp_lift_some, wp_ite, sp_toS, sp_ok, sp_ite, seqQ_nx, seqQ_rt, seqQ_bk, seqQ_ct, calQ_nx, calQ_rt, exs_nil, ex_asg, ex_fst, ex_ixs, ex_exp, ex_ret, ex_retn, ex_ife, ex_rai, ex_pass, ex_brk, ex_cont, ev_slot, ev_int, ev_str, ev_bl, ev_non, ev_con, ev_bin, ev_neg, ev_not, ev_and, ev_or, ev_isN, ev_notN, ev_cmp, ev_chn, ev_ite, ev_tup, ev_lst, ev_ix, ev_sl, ev_call, ev_mk, ev_meth, ev_bif, ev_bm, ev_isi, ev_fld, ev_xf, evT_bif, evT_slot, evT_call, evT_meth, evT_isi, evT_ix, evT_fld, evT_bl, tru_bl, evT_not, evT_and, evT_or, evT_cmp, evT_chn, evT_isN, evT_notN, evC_no, evC_so, evo_no, evo_so, evs_nil, evs_cons, evIt_seq, evIt_rng1, evIt_rng2, evIt_zip, eqD_int, at0, at1, at2, at3, addD_int, if_tt, if_ff, tysD, ty_int_int, ty_int_bool, ty_int_str, ty_int_tuple, ty_int_list, ty_bl_int, ty_bl_bool, ty_bl_str, ty_bl_tuple, ty_bl_list, ty_str_int, ty_str_bool, ty_str_str, ty_str_tuple, ty_str_list, ty_tup_int, ty_tup_bool, ty_tup_str, ty_tup_tuple, ty_tup_list, ty_non_int, ty_non_bool, ty_non_str, ty_non_tuple, ty_non_list, ty_frz_int, ty_frz_bool, ty_frz_str, ty_frz_tuple, ty_frz_list, tq_int, tq_bool, tq_str, tq_tuple, tq_list, slotK, negK, isNK, notNK, isN_non, isN_int, isN_bl, isN_str, isN_tup, isN_ref, andK, orK, truK, blK, intK, binD, intD, cmpD, icmpD, bifD, asgK, bindTg, bindTgs, tupK, lstK, isiK, bmK, fldK, startE, List.map_cons, List.map_nil, List.length_cons, List.length_nil, List.replicate_succ, List.replicate_zero, List.cons_append, List.nil_append, List.getElem?_cons_zero, List.getElem?_cons_succ, List.getElem?_nil, List.set_cons_zero, List.set_cons_succ, Nat.reduceSub, Nat.reduceAdd, Nat.reduceLT, if_true, if_false, reduceIte, Bool.not_true, Bool.not_false, reduceCtorEq]
  refine draw x.1 (by decide) (by decide) fun n h1 n0 n1 p1 f1 => ?_
  have x1 := x.fr p1 f1
  simp only [Bool.and_eq_true, Bool.or_eq_true, and_true, true_and, or_true, true_or, and_self, Int.reduceLE, Int.reduceLT, Int.reduceAbs, Nat.reducePow, Int.reduceToNat, Int.reducePow, Option.map_some, Option.map_none, beq_iff_eq, decide_eq_true_eq, bind_ok, toS_ok, lift_some, wp_ok, wp_bind, wp_lift_some, wp_ite, sp_toS, sp_ok, sp_ite, seqQ_nx, seqQ_rt, seqQ_bk, seqQ_ct, calQ_nx, calQ_rt, exs_nil, ex_asg, ex_fst, ex_ixs, ex_exp, ex_ret, ex_retn, ex_ife, ex_rai, ex_pass, ex_brk, ex_cont, ev_slot, ev_int, ev_str, ev_bl, ev_non, ev_con, ev_bin, ev_neg, ev_not, ev_and, ev_or, ev_isN, ev_notN, ev_cmp, ev_chn, ev_ite, ev_tup, ev_lst, ev_ix, ev_sl, ev_call, ev_mk, ev_meth, ev_bif, ev_bm, ev_isi, ev_fld, ev_xf, evT_bif, evT_slot, evT_call, evT_meth, evT_isi, evT_ix, evT_fld, evT_bl, tru_bl, evT_not, evT_and, evT_or, evT_cmp, evT_chn, evT_isN, evT_notN, evC_no, evC_so, evo_no, evo_so, evs_nil, evs_cons, evIt_seq, evIt_rng1, evIt_rng2, evIt_zip, eqD_int, at0, at1, at2, at3, addD_int, if_tt, if_ff, tysD, ty_int_int, ty_int_bool, ty_int_str, ty_int_tuple, ty_int_list, ty_bl_int, ty_bl_bool, ty_bl_str, ty_bl_tuple, ty_bl_list, ty_str_int, ty_str_bool, ty_str_str, ty_str_tuple, ty_str_list, ty_tup_int, ty_tup_bool, ty_tup_str, ty_tup_tuple, ty_tup_list, ty_non_int, ty_non_bool, ty_non_str, ty_non_tuple, ty_non_list, ty_frz_int, ty_frz_bool, ty_frz_str, ty_frz_tuple, ty_frz_list, tq_int, tq_bool, tq_str, tq_tuple, tq_list, slotK, negK, isNK, notNK, isN_non, isN_int, isN_bl, isN_str, isN_tup, isN_ref, andK, orK, truK, blK, intK, binD, intD, cmpD, icmpD, bifD, asgK, bindTg, bindTgs, tupK, lstK, isiK, bmK, fldK, startE, List.map_cons, List.map_nil, List.length_cons, List.length_nil, List.replicate_succ, List.replicate_zero, List.cons_append, List.nil_append, List.getElem?_cons_zero, List.getElem?_cons_succ, List.getElem?_nil, List.set_cons_zero, List.set_cons_succ, Nat.reduceSub, Nat.reduceAdd, Nat.reduceLT, if_true, if_false, reduceIte, Bool.not_true, Bool.not_false, reduceCtorEq, rngK1, itRng_ok (n := 1 + n) (by omega) (by omega)]
  refine for_wp ((List.range (1 + n).toNat).map fun (j : Nat) => D.int (j : Int)) (fun i ρ h => ∃ k, ρ = [some sc, some (.ref 1), some (.ref 2), k, none, none, none, none, none] ∧ Inv h i) (fun i ρ h _ _ => rfl) (fun i y ρ h2 hy ⟨k, e, x2⟩ => ?_) (fun ρ h2 ⟨k, e, x2⟩ => ?_) _ 0 _ h1 (by simp) ⟨none, rfl, x1⟩
  · subst e
    unfold forBody
    simp only [Bool.and_eq_true, Bool.or_eq_true, and_true, true_and, or_true, true_or, and_self, Int.reduceLE, Int.reduceLT, Int.reduceAbs, Nat.reducePow, Int.reduceToNat, Int.reducePow, Option.map_some, Option.map_none, beq_iff_eq, decide_eq_true_eq, bind_ok, toS_ok, lift_some, wp_ok, wp_bind, wp_lift_some, wp_ite, sp_toS, sp_ok, sp_ite, seqQ_nx, seqQ_rt, seqQ_bk, seqQ_ct, calQ_nx, calQ_rt, exs_nil, ex_asg, ex_fst, ex_ixs, ex_exp, ex_ret, ex_retn, ex_ife, ex_rai, ex_pass, ex_brk, ex_cont, ev_slot, ev_int, ev_str, ev_bl, ev_non, ev_con, ev_bin, ev_neg, ev_not, ev_and, ev_or, ev_isN, ev_notN, ev_cmp, ev_chn, ev_ite, ev_tup, ev_lst, ev_ix, ev_sl, ev_call, ev_mk, ev_meth, ev_bif, ev_bm, ev_isi, ev_fld, ev_xf, evT_bif, evT_slot, evT_call, evT_meth, evT_isi, evT_ix, evT_fld, evT_bl, tru_bl, evT_not, evT_and, evT_or, evT_cmp, evT_chn, evT_isN, evT_notN, evC_no, evC_so, evo_no, evo_so, evs_nil, evs_cons, evIt_seq, evIt_rng1, evIt_rng2, evIt_zip, eqD_int, at0, at1, at2, at3, addD_int, if_tt, if_ff, tysD, ty_int_int, ty_int_bool, ty_int_str, ty_int_tuple, ty_int_list, ty_bl_int, ty_bl_bool, ty_bl_str, ty_bl_tuple, ty_bl_list, ty_str_int, ty_str_bool, ty_str_str, ty_str_tuple, ty_str_list, ty_tup_int, ty_tup_bool, ty_tup_str, ty_tup_tuple, ty_tup_list, ty_non_int, ty_non_bool, ty_non_str, ty_non_tuple, ty_non_list, ty_frz_int, ty_frz_bool, ty_frz_str, ty_frz_tuple, ty_frz_list, tq_int, tq_bool, tq_str, tq_tuple, tq_list, slotK, negK, isNK, notNK, isN_non, isN_int, isN_bl, isN_str, isN_tup, isN_ref, andK, orK, truK, blK, intK, binD, intD, cmpD, icmpD, bifD, asgK, bindTg, bindTgs, tupK, lstK, isiK, bmK, fldK, startE, List.map_cons, List.map_nil, List.length_cons, List.length_nil, List.replicate_succ, List.replicate_zero, List.cons_append, List.nil_append, List.getElem?_cons_zero, List.getElem?_cons_succ, List.getElem?_nil, List.set_cons_zero, List.set_cons_succ, Nat.reduceSub, Nat.reduceAdd, Nat.reduceLT, if_true, if_false, reduceIte, Bool.not_true, Bool.not_false, reduceCtorEq]
    obtain ⟨p2, ws, ew, lw, bw⟩ := x2
    have l2 : (2 : Nat) ≤ SL := by decide
    have hi : i < 10 := by
      have := (List.getElem?_eq_some_iff.mp hy).1
      rw [List.length_map, List.length_range] at this
      omega
    refine sp_cons ?_
    simp only [Bool.and_eq_true, Bool.or_eq_true, and_true, true_and, or_true, true_or, and_self, Int.reduceLE, Int.reduceLT, Int.reduceAbs, Nat.reducePow, Int.reduceToNat, Int.reducePow, Option.map_some, Option.map_none, beq_iff_eq, decide_eq_true_eq, bind_ok, toS_ok, lift_some, wp_ok, wp_bind, wp_lift_some, wp_ite, sp_toS, sp_ok, sp_ite, seqQ_nx, seqQ_rt, seqQ_bk, seqQ_ct, calQ_nx, calQ_rt, exs_nil, ex_asg, ex_fst, ex_ixs, ex_exp, ex_ret, ex_retn, ex_ife, ex_rai, ex_pass, ex_brk, ex_cont, ev_slot, ev_int, ev_str, ev_bl, ev_non, ev_con, ev_bin, ev_neg, ev_not, ev_and, ev_or, ev_isN, ev_notN, ev_cmp, ev_chn, ev_ite, ev_tup, ev_lst, ev_ix, ev_sl, ev_call, ev_mk, ev_meth, ev_bif, ev_bm, ev_isi, ev_fld, ev_xf, evT_bif, evT_slot, evT_call, evT_meth, evT_isi, evT_ix, evT_fld, evT_bl, tru_bl, evT_not, evT_and, evT_or, evT_cmp, evT_chn, evT_isN, evT_notN, evC_no, evC_so, evo_no, evo_so, evs_nil, evs_cons, evIt_seq, evIt_rng1, evIt_rng2, evIt_zip, eqD_int, at0, at1, at2, at3, addD_int, if_tt, if_ff, tysD, ty_int_int, ty_int_bool, ty_int_str, ty_int_tuple, ty_int_list, ty_bl_int, ty_bl_bool, ty_bl_str, ty_bl_tuple, ty_bl_list, ty_str_int, ty_str_bool, ty_str_str, ty_str_tuple, ty_str_list, ty_tup_int, ty_tup_bool, ty_tup_str, ty_tup_tuple, ty_tup_list, ty_non_int, ty_non_bool, ty_non_str, ty_non_tuple, ty_non_list, ty_frz_int, ty_frz_bool, ty_frz_str, ty_frz_tuple, ty_frz_list, tq_int, tq_bool, tq_str, tq_tuple, tq_list, slotK, negK, isNK, notNK, isN_non, isN_int, isN_bl, isN_str, isN_tup, isN_ref, andK, orK, truK, blK, intK, binD, intD, cmpD, icmpD, bifD, asgK, bindTg, bindTgs, tupK, lstK, isiK, bmK, fldK, startE, List.map_cons, List.map_nil, List.length_cons, List.length_nil, List.replicate_succ, List.replicate_zero, List.cons_append, List.nil_append, List.getElem?_cons_zero, List.getElem?_cons_succ, List.getElem?_nil, List.set_cons_zero, List.set_cons_succ, Nat.reduceSub, Nat.reduceAdd, Nat.reduceLT, if_true, if_false, reduceIte, Bool.not_true, Bool.not_false, reduceCtorEq, bmOk, isLst_ref ew, l2, bmD]
    refine draw (p2.push) (by decide) (by decide) fun j h3 j0 j1 p3 f3 => ?_
    have e3 : h3[h2.length]? = some (.lst [.int 10, .int 1000000000000000000000000000000]) := by
      rw [f3.2 _ (by have := (List.getElem?_eq_some_iff.mp ew).1; omega)]
      exact get_push _ _
    obtain ⟨c, hc, c0, c1⟩ : ∃ c : Int, ixD (.ref h2.length) (.int j) h3 = .ok (.int c) h3 ∧ 0 < c ∧ c ≤ 10 ^ 30 := by
      rw [ixD_ref e3]
      rcases (show j = 0 ∨ j = 1 by omega) with rfl | rfl
      · exact ⟨10, by rw [at0]; rfl, by decide, by decide⟩
      · exact ⟨10 ^ 30, by rw [at1]; rfl, by decide, by decide⟩
    simp only [hc, Bool.and_eq_true, Bool.or_eq_true, and_true, true_and, or_true, true_or, and_self, Int.reduceLE, Int.reduceLT, Int.reduceAbs, Nat.reducePow, Int.reduceToNat, Int.reducePow, Option.map_some, Option.map_none, beq_iff_eq, decide_eq_true_eq, bind_ok, toS_ok, lift_some, wp_ok, wp_bind, wp_lift_some, wp_ite, sp_toS, sp_ok, sp_ite, seqQ_nx, seqQ_rt, seqQ_bk, seqQ_ct, calQ_nx, calQ_rt, exs_nil, ex_asg, ex_fst, ex_ixs, ex_exp, ex_ret, ex_retn, ex_ife, ex_rai, ex_pass, ex_brk, ex_cont, ev_slot, ev_int, ev_str, ev_bl, ev_non, ev_con, ev_bin, ev_neg, ev_not, ev_and, ev_or, ev_isN, ev_notN, ev_cmp, ev_chn, ev_ite, ev_tup, ev_lst, ev_ix, ev_sl, ev_call, ev_mk, ev_meth, ev_bif, ev_bm, ev_isi, ev_fld, ev_xf, evT_bif, evT_slot, evT_call, evT_meth, evT_isi, evT_ix, evT_fld, evT_bl, tru_bl, evT_not, evT_and, evT_or, evT_cmp, evT_chn, evT_isN, evT_notN, evC_no, evC_so, evo_no, evo_so, evs_nil, evs_cons, evIt_seq, evIt_rng1, evIt_rng2, evIt_zip, eqD_int, at0, at1, at2, at3, addD_int, if_tt, if_ff, tysD, ty_int_int, ty_int_bool, ty_int_str, ty_int_tuple, ty_int_list, ty_bl_int, ty_bl_bool, ty_bl_str, ty_bl_tuple, ty_bl_list, ty_str_int, ty_str_bool, ty_str_str, ty_str_tuple, ty_str_list, ty_tup_int, ty_tup_bool, ty_tup_str, ty_tup_tuple, ty_tup_list, ty_non_int, ty_non_bool, ty_non_str, ty_non_tuple, ty_non_list, ty_frz_int, ty_frz_bool, ty_frz_str, ty_frz_tuple, ty_frz_list, tq_int, tq_bool, tq_str, tq_tuple, tq_list, slotK, negK, isNK, notNK, isN_non, isN_int, isN_bl, isN_str, isN_tup, isN_ref, andK, orK, truK, blK, intK, binD, intD, cmpD, icmpD, bifD, asgK, bindTg, bindTgs, tupK, lstK, isiK, bmK, fldK, startE, List.map_cons, List.map_nil, List.length_cons, List.length_nil, List.replicate_succ, List.replicate_zero, List.cons_append, List.nil_append, List.getElem?_cons_zero, List.getElem?_cons_succ, List.getElem?_nil, List.set_cons_zero, List.set_cons_succ, Nat.reduceSub, Nat.reduceAdd, Nat.reduceLT, if_true, if_false, reduceIte, Bool.not_true, Bool.not_false, reduceCtorEq]
    refine draw p3 c0 (Int.lt_of_le_of_lt c1 (by decide)) fun v h4 v0 v1 p4 f4 => ?_
    have vs := strOf_ok (h := h4) v0 (by omega)
    have ew4 : h4[2]? = some (.lst (ws.map D.str)) := by
      rw [f4.2 2 (by decide), f3.2 2 (by decide)]
      exact (Gr.push _ _).get ew
    simp only [vs, Bool.and_eq_true, Bool.or_eq_true, and_true, true_and, or_true, true_or, and_self, Int.reduceLE, Int.reduceLT, Int.reduceAbs, Nat.reducePow, Int.reduceToNat, Int.reducePow, Option.map_some, Option.map_none, beq_iff_eq, decide_eq_true_eq, bind_ok, toS_ok, lift_some, wp_ok, wp_bind, wp_lift_some, wp_ite, sp_toS, sp_ok, sp_ite, seqQ_nx, seqQ_rt, seqQ_bk, seqQ_ct, calQ_nx, calQ_rt, exs_nil, ex_asg, ex_fst, ex_ixs, ex_exp, ex_ret, ex_retn, ex_ife, ex_rai, ex_pass, ex_brk, ex_cont, ev_slot, ev_int, ev_str, ev_bl, ev_non, ev_con, ev_bin, ev_neg, ev_not, ev_and, ev_or, ev_isN, ev_notN, ev_cmp, ev_chn, ev_ite, ev_tup, ev_lst, ev_ix, ev_sl, ev_call, ev_mk, ev_meth, ev_bif, ev_bm, ev_isi, ev_fld, ev_xf, evT_bif, evT_slot, evT_call, evT_meth, evT_isi, evT_ix, evT_fld, evT_bl, tru_bl, evT_not, evT_and, evT_or, evT_cmp, evT_chn, evT_isN, evT_notN, evC_no, evC_so, evo_no, evo_so, evs_nil, evs_cons, evIt_seq, evIt_rng1, evIt_rng2, evIt_zip, eqD_int, at0, at1, at2, at3, addD_int, if_tt, if_ff, tysD, ty_int_int, ty_int_bool, ty_int_str, ty_int_tuple, ty_int_list, ty_bl_int, ty_bl_bool, ty_bl_str, ty_bl_tuple, ty_bl_list, ty_str_int, ty_str_bool, ty_str_str, ty_str_tuple, ty_str_list, ty_tup_int, ty_tup_bool, ty_tup_str, ty_tup_tuple, ty_tup_list, ty_non_int, ty_non_bool, ty_non_str, ty_non_tuple, ty_non_list, ty_frz_int, ty_frz_bool, ty_frz_str, ty_frz_tuple, ty_frz_list, tq_int, tq_bool, tq_str, tq_tuple, tq_list, slotK, negK, isNK, notNK, isN_non, isN_int, isN_bl, isN_str, isN_tup, isN_ref, andK, orK, truK, blK, intK, binD, intD, cmpD, icmpD, bifD, asgK, bindTg, bindTgs, tupK, lstK, isiK, bmK, fldK, startE, List.map_cons, List.map_nil, List.length_cons, List.length_nil, List.replicate_succ, List.replicate_zero, List.cons_append, List.nil_append, List.getElem?_cons_zero, List.getElem?_cons_succ, List.getElem?_nil, List.set_cons_zero, List.set_cons_succ, Nat.reduceSub, Nat.reduceAdd, Nat.reduceLT, if_true, if_false, reduceIte, Bool.not_true, Bool.not_false, reduceCtorEq, append_ref ew4 (show (ws.map D.str).length < SL by rw [List.length_map, lw]; exact Nat.lt_of_lt_of_le hi (by decide))]
    refine ⟨some y, rfl, p4.set, ws ++ [Str.ofString (toString v)], ?_, by rw [List.length_append, lw]; rfl, fun w hw => ?_⟩
    · rw [set_get ew4, List.map_append]; rfl
    · rcases List.mem_append.mp hw with hw | hw
      · exact bw w hw
      · have : w = Str.ofString (toString v) := by simpa using hw
        rw [this]
        exact str_len v0 (by omega)
  · subst e
    rw [List.length_map, List.length_range] at x2
    exact q h2 _ k x2 (by omega) (by omega)
theorem star_wp {k : Nat} {h : Hh} {m : Nat} {sc : D} {kk : Option D} {Q : Fl → Hh → Prop} {E0 : Exn → PEnv → Hh → Prop} (x : Inv h m) (hm : 1 ≤ m) (hm2 : m ≤ 9)
    (q : ∀ h', Inv h' m → Q (.nx [some sc, some (.ref 1), some (.ref 2), kk, none, none, none, none, none]) h') :
    (ex (cal tb (k + 1)) tb (S.ife (E.cmp Cop.eq (E.call 1001 (Es.cons (E.slot 1) (Es.cons (E.int 6) Es.nil))) (E.int 0))
              (Ss.cons (S.ixs (E.slot 2) (E.call 1001 (Es.cons (E.slot 1) (Es.cons (E.bif Bf.len (Es.cons (E.slot 2) Es.nil)) Es.nil))) (E.str (Str.ofString "*"))) Ss.nil)
              Ss.nil) none [some sc, some (.ref 1), some (.ref 2), kk, none, none, none, none, none] h).wp Q E0 := by
  simp only [Bool.and_eq_true, Bool.or_eq_true, and_true, true_and, or_true, true_or, and_self, Int.reduceLE, Int.reduceLT, Int.reduceAbs, Nat.reducePow, Int.reduceToNat, Int.reducePow, Option.map_some, Option.map_none, beq_iff_eq, decide_eq_true_eq, bind_ok, toS_ok, lift_some, wp_ok, wp_bind, wp_lift_some, wp_ite, sp_toS, sp_ok, sp_ite, seqQ_nx, seqQ_rt, seqQ_bk, seqQ_ct, calQ_nx, calQ_rt, exs_nil, ex_asg, ex_fst, ex_ixs, ex_exp, ex_ret, ex_retn, ex_ife, ex_rai, ex_pass, ex_brk, ex_cont, ev_slot, ev_int, ev_str, ev_bl, ev_non, ev_con, ev_bin, ev_neg, ev_not, ev_and, ev_or, ev_isN, ev_notN, ev_cmp, ev_chn, ev_ite, ev_tup, ev_lst, ev_ix, ev_sl, ev_call, ev_mk, ev_meth, ev_bif, ev_bm, ev_isi, ev_fld, ev_xf, evT_bif, evT_slot, evT_call, evT_meth, evT_isi, evT_ix, evT_fld, evT_bl, tru_bl, evT_not, evT_and, evT_or, evT_cmp, evT_chn, evT_isN, evT_notN, evC_no, evC_so, evo_no, evo_so, evs_nil, evs_cons, evIt_seq, evIt_rng1, evIt_rng2, evIt_zip, eqD_int, at0, at1, at2, at3, addD_int, if_tt, if_ff, tysD, ty_int_int, ty_int_bool, ty_int_str, ty_int_tuple, ty_int_list, ty_bl_int, ty_bl_bool, ty_bl_str, ty_bl_tuple, ty_bl_list, ty_str_int, ty_str_bool, ty_str_str, ty_str_tuple, ty_str_list, ty_tup_int, ty_tup_bool, ty_tup_str, ty_tup_tuple, ty_tup_list, ty_non_int, ty_non_bool, ty_non_str, ty_non_tuple, ty_non_list, ty_frz_int, ty_frz_bool, ty_frz_str, ty_frz_tuple, ty_frz_list, tq_int, tq_bool, tq_str, tq_tuple, tq_list, slotK, negK, isNK, notNK, isN_non, isN_int, isN_bl, isN_str, isN_tup, isN_ref, andK, orK, truK, blK, intK, binD, intD, cmpD, icmpD, bifD, asgK, bindTg, bindTgs, tupK, lstK, isiK, bmK, fldK, startE, List.map_cons, List.map_nil, List.length_cons, List.length_nil, List.replicate_succ, List.replicate_zero, List.cons_append, List.nil_append, List.getElem?_cons_zero, List.getElem?_cons_succ, List.getElem?_nil, List.set_cons_zero, List.set_cons_succ, Nat.reduceSub, Nat.reduceAdd, Nat.reduceLT, if_true, if_false, reduceIte, Bool.not_true, Bool.not_false, reduceCtorEq]
  refine draw x.1 (by decide) (by decide) fun n h1 n0 n1 p1 f1 => ?_
  have x1 := x.fr p1 f1
  simp only [Bool.and_eq_true, Bool.or_eq_true, and_true, true_and, or_true, true_or, and_self, Int.reduceLE, Int.reduceLT, Int.reduceAbs, Nat.reducePow, Int.reduceToNat, Int.reducePow, Option.map_some, Option.map_none, beq_iff_eq, decide_eq_true_eq, bind_ok, toS_ok, lift_some, wp_ok, wp_bind, wp_lift_some, wp_ite, sp_toS, sp_ok, sp_ite, seqQ_nx, seqQ_rt, seqQ_bk, seqQ_ct, calQ_nx, calQ_rt, exs_nil, ex_asg, ex_fst, ex_ixs, ex_exp, ex_ret, ex_retn, ex_ife, ex_rai, ex_pass, ex_brk, ex_cont, ev_slot, ev_int, ev_str, ev_bl, ev_non, ev_con, ev_bin, ev_neg, ev_not, ev_and, ev_or, ev_isN, ev_notN, ev_cmp, ev_chn, ev_ite, ev_tup, ev_lst, ev_ix, ev_sl, ev_call, ev_mk, ev_meth, ev_bif, ev_bm, ev_isi, ev_fld, ev_xf, evT_bif, evT_slot, evT_call, evT_meth, evT_isi, evT_ix, evT_fld, evT_bl, tru_bl, evT_not, evT_and, evT_or, evT_cmp, evT_chn, evT_isN, evT_notN, evC_no, evC_so, evo_no, evo_so, evs_nil, evs_cons, evIt_seq, evIt_rng1, evIt_rng2, evIt_zip, eqD_int, at0, at1, at2, at3, addD_int, if_tt, if_ff, tysD, ty_int_int, ty_int_bool, ty_int_str, ty_int_tuple, ty_int_list, ty_bl_int, ty_bl_bool, ty_bl_str, ty_bl_tuple, ty_bl_list, ty_str_int, ty_str_bool, ty_str_str, ty_str_tuple, ty_str_list, ty_tup_int, ty_tup_bool, ty_tup_str, ty_tup_tuple, ty_tup_list, ty_non_int, ty_non_bool, ty_non_str, ty_non_tuple, ty_non_list, ty_frz_int, ty_frz_bool, ty_frz_str, ty_frz_tuple, ty_frz_list, tq_int, tq_bool, tq_str, tq_tuple, tq_list, slotK, negK, isNK, notNK, isN_non, isN_int, isN_bl, isN_str, isN_tup, isN_ref, andK, orK, truK, blK, intK, binD, intD, cmpD, icmpD, bifD, asgK, bindTg, bindTgs, tupK, lstK, isiK, bmK, fldK, startE, List.map_cons, List.map_nil, List.length_cons, List.length_nil, List.replicate_succ, List.replicate_zero, List.cons_append, List.nil_append, List.getElem?_cons_zero, List.getElem?_cons_succ, List.getElem?_nil, List.set_cons_zero, List.set_cons_succ, Nat.reduceSub, Nat.reduceAdd, Nat.reduceLT, if_true, if_false, reduceIte, Bool.not_true, Bool.not_false, reduceCtorEq, eqD_int]
  split
  · obtain ⟨p2, ws, ew, lw, bw⟩ := x1
    refine sp_cons ?_
    simp only [Bool.and_eq_true, Bool.or_eq_true, and_true, true_and, or_true, true_or, and_self, Int.reduceLE, Int.reduceLT, Int.reduceAbs, Nat.reducePow, Int.reduceToNat, Int.reducePow, Option.map_some, Option.map_none, beq_iff_eq, decide_eq_true_eq, bind_ok, toS_ok, lift_some, wp_ok, wp_bind, wp_lift_some, wp_ite, sp_toS, sp_ok, sp_ite, seqQ_nx, seqQ_rt, seqQ_bk, seqQ_ct, calQ_nx, calQ_rt, exs_nil, ex_asg, ex_fst, ex_ixs, ex_exp, ex_ret, ex_retn, ex_ife, ex_rai, ex_pass, ex_brk, ex_cont, ev_slot, ev_int, ev_str, ev_bl, ev_non, ev_con, ev_bin, ev_neg, ev_not, ev_and, ev_or, ev_isN, ev_notN, ev_cmp, ev_chn, ev_ite, ev_tup, ev_lst, ev_ix, ev_sl, ev_call, ev_mk, ev_meth, ev_bif, ev_bm, ev_isi, ev_fld, ev_xf, evT_bif, evT_slot, evT_call, evT_meth, evT_isi, evT_ix, evT_fld, evT_bl, tru_bl, evT_not, evT_and, evT_or, evT_cmp, evT_chn, evT_isN, evT_notN, evC_no, evC_so, evo_no, evo_so, evs_nil, evs_cons, evIt_seq, evIt_rng1, evIt_rng2, evIt_zip, eqD_int, at0, at1, at2, at3, addD_int, if_tt, if_ff, tysD, ty_int_int, ty_int_bool, ty_int_str, ty_int_tuple, ty_int_list, ty_bl_int, ty_bl_bool, ty_bl_str, ty_bl_tuple, ty_bl_list, ty_str_int, ty_str_bool, ty_str_str, ty_str_tuple, ty_str_list, ty_tup_int, ty_tup_bool, ty_tup_str, ty_tup_tuple, ty_tup_list, ty_non_int, ty_non_bool, ty_non_str, ty_non_tuple, ty_non_list, ty_frz_int, ty_frz_bool, ty_frz_str, ty_frz_tuple, ty_frz_list, tq_int, tq_bool, tq_str, tq_tuple, tq_list, slotK, negK, isNK, notNK, isN_non, isN_int, isN_bl, isN_str, isN_tup, isN_ref, andK, orK, truK, blK, intK, binD, intD, cmpD, icmpD, bifD, asgK, bindTg, bindTgs, tupK, lstK, isiK, bmK, fldK, startE, List.map_cons, List.map_nil, List.length_cons, List.length_nil, List.replicate_succ, List.replicate_zero, List.cons_append, List.nil_append, List.getElem?_cons_zero, List.getElem?_cons_succ, List.getElem?_nil, List.set_cons_zero, List.set_cons_succ, Nat.reduceSub, Nat.reduceAdd, Nat.reduceLT, if_true, if_false, reduceIte, Bool.not_true, Bool.not_false, reduceCtorEq, lenD_ref ew]
    refine draw p2 (c := ((ws.map D.str).length : Int)) (by rw [List.length_map, lw]; omega) (by rw [List.length_map, lw]; exact Int.lt_of_le_of_lt (show (m : Int) ≤ 9 by omega) (by decide)) fun j h2 j0 j1 p3 f3 => ?_
    have ew2 : h2[2]? = some (.lst (ws.map D.str)) := by rw [f3.2 2 (by decide)]; exact ew
    have hj : L2.ixN (ws.map D.str).length j = some j.toNat := by
      unfold L2.ixN
      rw [if_pos j0, if_pos j1]
    rw [ixs_ref ew2 hj, sp_ok, seqQ_nx, sp_ok]
    refine q _ ⟨p3.set, ws.set j.toNat (Str.ofString "*"), ?_, by rw [List.length_set, lw], fun w hw => ?_⟩
    · rw [set_get ew2, List.map_set]
    · rcases List.mem_or_eq_of_mem_set hw with hw | hw
      · exact bw w hw
      · rw [hw]; decide +kernel
  · exact q _ x1
end MPk77

set_option Elab.async false
set_option linter.all false
set_option maxRecDepth 100000
set_option autoImplicit false
set_option maxHeartbeats 8000000
namespace MPk77
open PySem MP
theorem join_len (y : Str) : ∀ parts : List Str, (Str.join y parts).length ≤ (parts.map (·.length)).sum + parts.length * y.length
  | [] => Nat.zero_le _
  | [x] => by
    show x.length ≤ _
    simp
  | x :: z :: r => by
    have ih := join_len y (z :: r)
    have e : (Str.join y (x :: z :: r)).length = x.length + y.length + (Str.join y (z :: r)).length := by
      show (x ++ y ++ Str.join y (z :: r)).length = _
      rw [len_app, len_app]
    rw [e]
    have e2 : ((x :: z :: r).map (·.length)).sum = x.length + ((z :: r).map (·.length)).sum := by simp
    have e3 : (x :: z :: r).length * y.length = y.length + (z :: r).length * y.length := by
      rw [List.length_cons (a := x), Nat.succ_mul]; omega
    rw [e2, e3]
    omega
theorem sum_le {ws : List Str} {b : Nat} (h : ∀ w ∈ ws, w.length ≤ b) : (ws.map (·.length)).sum ≤ ws.length * b := by
  induction ws with
  | nil => simp
  | cons w ws ih =>
    have h1 := h w List.mem_cons_self
    have h2 := ih fun x hx => h x (List.mem_cons_of_mem _ hx)
    simp only [List.map_cons, List.sum_cons, List.length_cons, Nat.succ_mul]
    omega
theorem dStrs_map : ∀ ws : List Str, dStrs (ws.map .str) = some ws
  | [] => rfl
  | w :: ws => by simp only [List.map_cons, dStrs, dStrs_map ws, Option.map_some]
theorem joinD_ref {h : Hh} {ws : List Str} (e : h[2]? = some (.lst (ws.map D.str))) (hl : ws.length ≤ 9) (hb : ∀ w ∈ ws, w.length ≤ 31) : ∃ t : Str, joinD (.str ".") [.ref 2] h = .ok (.str t) h ∧ t.length ≤ 288 := by
  have hs := sum_le hb
  have e1 : (("." : Str)).length = 1 := by decide +kernel
  refine ⟨Txt.join "." ws, ?_, ?_⟩
  · unfold joinD seqD
    dsimp only
    rw [e]
    dsimp only [Option.bind]
    rw [dStrs_map]
    dsimp only
    rw [if_pos]
    rw [e1]
    show _ ≤ 16777216
    omega
  · rw [TL.join_eq]
    have := join_len "." ws
    rw [e1] at this
    omega
theorem mut_wp {sc : D} {h : Hh} {t : Str} {kk : Option D} {Q : Fl → Hh → Prop} {E0 : Exn → PEnv → Hh → Prop} (x : Pool h 1) (ht : t.length ≤ 288)
    (q : ∀ h' t' k, Pool h' 1 → t'.length ≤ 291 → Q (.nx [some sc, some (.ref 1), some (.ref 2), k, some (.str t'), none, none, none, none]) h') :
    (ex (cal tb 19) tb (S.for_ (Tg.nm 3) (It.rng1 (E.call 1001 (Es.cons (E.slot 1) (Es.cons (E.int 3) Es.nil))))
                  (Ss.cons (S.asg (Tg.nm 4) (E.call 1005 (Es.cons (E.slot 1) (Es.cons (E.slot 4) Es.nil)))) Ss.nil)) none [some sc, some (.ref 1), some (.ref 2), kk, some (.str t), none, none, none, none] h).wp Q E0 := by
  rw [ex_for, sp_toS]
  simp only [Bool.and_eq_true, Bool.or_eq_true, and_true, true_and, or_true, true_or, and_self, Int.reduceLE, Int.reduceLT, Int.reduceAbs, Nat.reducePow, Int.reduceToNat, Int.reducePow, Option.map_some, Option.map_none, beq_iff_eq, decide_eq_true_eq, bind_ok, toS_ok, lift_some, wp_ok, wp_bind, wp_lift_some, wp_ite, sp_toS, sp_ok, sp_ite, seqQ_nx, seqQ_rt, seqQ_bk, seqQ_ct, calQ_nx, calQ_rt, exs_nil, ex_asg, ex_fst, ex_ixs, ex_exp, ex_ret, ex_retn, ex_ife, ex_rai, ex_pass, ex_brk, ex_cont, ev_slot, ev_int, ev_str, ev_bl, ev_non, ev_con, ev_bin, ev_neg, ev_not, ev_and, ev_or, ev_isN, ev_notN, ev_cmp, ev_chn, ev_ite, ev_tup, ev_lst, ev_ix, ev_sl, ev_call, ev_mk, ev_meth, ev_bif, ev_bm, ev_isi, ev_fld, ev_xf, evT_bif, evT_slot, evT_call, evT_meth, evT_isi, evT_ix, evT_fld, evT_bl, tru_bl, evT_not, evT_and, evT_or, evT_cmp, evT_chn, evT_isN, evT_notN, evC_no, evC_so, evo_no, evo_so, evs_nil, evs_cons, evIt_seq, evIt_rng1, evIt_rng2, evIt_zip, eqD_int, at0, at1, at2, at3, addD_int, if_tt, if_ff, tysD, ty_int_int, ty_int_bool, ty_int_str, ty_int_tuple, ty_int_list, ty_bl_int, ty_bl_bool, ty_bl_str, ty_bl_tuple, ty_bl_list, ty_str_int, ty_str_bool, ty_str_str, ty_str_tuple, ty_str_list, ty_tup_int, ty_tup_bool, ty_tup_str, ty_tup_tuple, ty_tup_list, ty_non_int, ty_non_bool, ty_non_str, ty_non_tuple, ty_non_list, ty_frz_int, ty_frz_bool, ty_frz_str, ty_frz_tuple, ty_frz_list, tq_int, tq_bool, tq_str, tq_tuple, tq_list, slotK, negK, isNK, notNK, isN_non, isN_int, isN_bl, isN_str, isN_tup, isN_ref, andK, orK, truK, blK, intK, binD, intD, cmpD, icmpD, bifD, asgK, bindTg, bindTgs, tupK, lstK, isiK, bmK, fldK, startE, List.map_cons, List.map_nil, List.length_cons, List.length_nil, List.replicate_succ, List.replicate_zero, List.cons_append, List.nil_append, List.getElem?_cons_zero, List.getElem?_cons_succ, List.getElem?_nil, List.set_cons_zero, List.set_cons_succ, Nat.reduceSub, Nat.reduceAdd, Nat.reduceLT, if_true, if_false, reduceIte, Bool.not_true, Bool.not_false, reduceCtorEq]
  refine draw x (by decide) (by decide) fun n h1 n0 n1 p1 f1 => ?_
  simp only [Bool.and_eq_true, Bool.or_eq_true, and_true, true_and, or_true, true_or, and_self, Int.reduceLE, Int.reduceLT, Int.reduceAbs, Nat.reducePow, Int.reduceToNat, Int.reducePow, Option.map_some, Option.map_none, beq_iff_eq, decide_eq_true_eq, bind_ok, toS_ok, lift_some, wp_ok, wp_bind, wp_lift_some, wp_ite, sp_toS, sp_ok, sp_ite, seqQ_nx, seqQ_rt, seqQ_bk, seqQ_ct, calQ_nx, calQ_rt, exs_nil, ex_asg, ex_fst, ex_ixs, ex_exp, ex_ret, ex_retn, ex_ife, ex_rai, ex_pass, ex_brk, ex_cont, ev_slot, ev_int, ev_str, ev_bl, ev_non, ev_con, ev_bin, ev_neg, ev_not, ev_and, ev_or, ev_isN, ev_notN, ev_cmp, ev_chn, ev_ite, ev_tup, ev_lst, ev_ix, ev_sl, ev_call, ev_mk, ev_meth, ev_bif, ev_bm, ev_isi, ev_fld, ev_xf, evT_bif, evT_slot, evT_call, evT_meth, evT_isi, evT_ix, evT_fld, evT_bl, tru_bl, evT_not, evT_and, evT_or, evT_cmp, evT_chn, evT_isN, evT_notN, evC_no, evC_so, evo_no, evo_so, evs_nil, evs_cons, evIt_seq, evIt_rng1, evIt_rng2, evIt_zip, eqD_int, at0, at1, at2, at3, addD_int, if_tt, if_ff, tysD, ty_int_int, ty_int_bool, ty_int_str, ty_int_tuple, ty_int_list, ty_bl_int, ty_bl_bool, ty_bl_str, ty_bl_tuple, ty_bl_list, ty_str_int, ty_str_bool, ty_str_str, ty_str_tuple, ty_str_list, ty_tup_int, ty_tup_bool, ty_tup_str, ty_tup_tuple, ty_tup_list, ty_non_int, ty_non_bool, ty_non_str, ty_non_tuple, ty_non_list, ty_frz_int, ty_frz_bool, ty_frz_str, ty_frz_tuple, ty_frz_list, tq_int, tq_bool, tq_str, tq_tuple, tq_list, slotK, negK, isNK, notNK, isN_non, isN_int, isN_bl, isN_str, isN_tup, isN_ref, andK, orK, truK, blK, intK, binD, intD, cmpD, icmpD, bifD, asgK, bindTg, bindTgs, tupK, lstK, isiK, bmK, fldK, startE, List.map_cons, List.map_nil, List.length_cons, List.length_nil, List.replicate_succ, List.replicate_zero, List.cons_append, List.nil_append, List.getElem?_cons_zero, List.getElem?_cons_succ, List.getElem?_nil, List.set_cons_zero, List.set_cons_succ, Nat.reduceSub, Nat.reduceAdd, Nat.reduceLT, if_true, if_false, reduceIte, Bool.not_true, Bool.not_false, reduceCtorEq, rngK1, itRng_ok (n := n) (by omega) (by omega)]
  refine for_wp ((List.range n.toNat).map fun (j : Nat) => D.int (j : Int)) (fun i ρ h => ∃ k t', ρ = [some sc, some (.ref 1), some (.ref 2), k, some (.str t'), none, none, none, none] ∧ Pool h 1 ∧ t'.length ≤ 288 + i) (fun i ρ h _ _ => rfl) (fun i y ρ h2 hy ⟨k, t', e, x2, l2⟩ => ?_) (fun ρ h2 ⟨k, t', e, x2, l2⟩ => ?_) _ 0 _ h1 (by simp) ⟨kk, t, rfl, p1, by omega⟩
  · subst e
    have hi : i < 3 := by
      have := (List.getElem?_eq_some_iff.mp hy).1
      rw [List.length_map, List.length_range] at this
      omega
    unfold forBody
    simp only [Bool.and_eq_true, Bool.or_eq_true, and_true, true_and, or_true, true_or, and_self, Int.reduceLE, Int.reduceLT, Int.reduceAbs, Nat.reducePow, Int.reduceToNat, Int.reducePow, Option.map_some, Option.map_none, beq_iff_eq, decide_eq_true_eq, bind_ok, toS_ok, lift_some, wp_ok, wp_bind, wp_lift_some, wp_ite, sp_toS, sp_ok, sp_ite, seqQ_nx, seqQ_rt, seqQ_bk, seqQ_ct, calQ_nx, calQ_rt, exs_nil, ex_asg, ex_fst, ex_ixs, ex_exp, ex_ret, ex_retn, ex_ife, ex_rai, ex_pass, ex_brk, ex_cont, ev_slot, ev_int, ev_str, ev_bl, ev_non, ev_con, ev_bin, ev_neg, ev_not, ev_and, ev_or, ev_isN, ev_notN, ev_cmp, ev_chn, ev_ite, ev_tup, ev_lst, ev_ix, ev_sl, ev_call, ev_mk, ev_meth, ev_bif, ev_bm, ev_isi, ev_fld, ev_xf, evT_bif, evT_slot, evT_call, evT_meth, evT_isi, evT_ix, evT_fld, evT_bl, tru_bl, evT_not, evT_and, evT_or, evT_cmp, evT_chn, evT_isN, evT_notN, evC_no, evC_so, evo_no, evo_so, evs_nil, evs_cons, evIt_seq, evIt_rng1, evIt_rng2, evIt_zip, eqD_int, at0, at1, at2, at3, addD_int, if_tt, if_ff, tysD, ty_int_int, ty_int_bool, ty_int_str, ty_int_tuple, ty_int_list, ty_bl_int, ty_bl_bool, ty_bl_str, ty_bl_tuple, ty_bl_list, ty_str_int, ty_str_bool, ty_str_str, ty_str_tuple, ty_str_list, ty_tup_int, ty_tup_bool, ty_tup_str, ty_tup_tuple, ty_tup_list, ty_non_int, ty_non_bool, ty_non_str, ty_non_tuple, ty_non_list, ty_frz_int, ty_frz_bool, ty_frz_str, ty_frz_tuple, ty_frz_list, tq_int, tq_bool, tq_str, tq_tuple, tq_list, slotK, negK, isNK, notNK, isN_non, isN_int, isN_bl, isN_str, isN_tup, isN_ref, andK, orK, truK, blK, intK, binD, intD, cmpD, icmpD, bifD, asgK, bindTg, bindTgs, tupK, lstK, isiK, bmK, fldK, startE, List.map_cons, List.map_nil, List.length_cons, List.length_nil, List.replicate_succ, List.replicate_zero, List.cons_append, List.nil_append, List.getElem?_cons_zero, List.getElem?_cons_succ, List.getElem?_nil, List.set_cons_zero, List.set_cons_succ, Nat.reduceSub, Nat.reduceAdd, Nat.reduceLT, if_true, if_false, reduceIte, Bool.not_true, Bool.not_false, reduceCtorEq]
    refine sp_cons ?_
    simp only [Bool.and_eq_true, Bool.or_eq_true, and_true, true_and, or_true, true_or, and_self, Int.reduceLE, Int.reduceLT, Int.reduceAbs, Nat.reducePow, Int.reduceToNat, Int.reducePow, Option.map_some, Option.map_none, beq_iff_eq, decide_eq_true_eq, bind_ok, toS_ok, lift_some, wp_ok, wp_bind, wp_lift_some, wp_ite, sp_toS, sp_ok, sp_ite, seqQ_nx, seqQ_rt, seqQ_bk, seqQ_ct, calQ_nx, calQ_rt, exs_nil, ex_asg, ex_fst, ex_ixs, ex_exp, ex_ret, ex_retn, ex_ife, ex_rai, ex_pass, ex_brk, ex_cont, ev_slot, ev_int, ev_str, ev_bl, ev_non, ev_con, ev_bin, ev_neg, ev_not, ev_and, ev_or, ev_isN, ev_notN, ev_cmp, ev_chn, ev_ite, ev_tup, ev_lst, ev_ix, ev_sl, ev_call, ev_mk, ev_meth, ev_bif, ev_bm, ev_isi, ev_fld, ev_xf, evT_bif, evT_slot, evT_call, evT_meth, evT_isi, evT_ix, evT_fld, evT_bl, tru_bl, evT_not, evT_and, evT_or, evT_cmp, evT_chn, evT_isN, evT_notN, evC_no, evC_so, evo_no, evo_so, evs_nil, evs_cons, evIt_seq, evIt_rng1, evIt_rng2, evIt_zip, eqD_int, at0, at1, at2, at3, addD_int, if_tt, if_ff, tysD, ty_int_int, ty_int_bool, ty_int_str, ty_int_tuple, ty_int_list, ty_bl_int, ty_bl_bool, ty_bl_str, ty_bl_tuple, ty_bl_list, ty_str_int, ty_str_bool, ty_str_str, ty_str_tuple, ty_str_list, ty_tup_int, ty_tup_bool, ty_tup_str, ty_tup_tuple, ty_tup_list, ty_non_int, ty_non_bool, ty_non_str, ty_non_tuple, ty_non_list, ty_frz_int, ty_frz_bool, ty_frz_str, ty_frz_tuple, ty_frz_list, tq_int, tq_bool, tq_str, tq_tuple, tq_list, slotK, negK, isNK, notNK, isN_non, isN_int, isN_bl, isN_str, isN_tup, isN_ref, andK, orK, truK, blK, intK, binD, intD, cmpD, icmpD, bifD, asgK, bindTg, bindTgs, tupK, lstK, isiK, bmK, fldK, startE, List.map_cons, List.map_nil, List.length_cons, List.length_nil, List.replicate_succ, List.replicate_zero, List.cons_append, List.nil_append, List.getElem?_cons_zero, List.getElem?_cons_succ, List.getElem?_nil, List.set_cons_zero, List.set_cons_succ, Nat.reduceSub, Nat.reduceAdd, Nat.reduceLT, if_true, if_false, reduceIte, Bool.not_true, Bool.not_false, reduceCtorEq]
    refine wp_mono (mutated_spec x2 (by omega)) (fun v h3 ⟨w', e, lw, p3, _⟩ => ?_) fun _ _ z => z.elim
    subst e
    exact ⟨some y, w', rfl, p3, by omega⟩
  · subst e
    rw [List.length_map, List.length_range] at l2
    exact q h2 t' k x2 (by omega)
end MPk77

set_option Elab.async false
set_option linter.all false
set_option maxRecDepth 100000
set_option autoImplicit false
set_option maxHeartbeats 8000000
namespace MPk77
open PySem MP
theorem EQ_int {k : Nat} {i : Int} {h : Hh} : EQ (k + 1) (.int i) h := eq_int
theorem EQ_str {k : Nat} {i : Str} {h : Hh} : EQ (k + 1) (.str i) h := eq_str
/-- a value that is no text -/
theorem chk_no {d : D} {h : Hh} {ρ : PEnv} {Q : Fl → Hh → Prop} {E0 : Exn → PEnv → Hh → Prop} (h5 : ρ[5]? = some (some d)) (hd : ∀ h', Gr h h' → tyD h' d .str = some false) (q : ∀ h', Gr h h' → Q (.nx ρ) h') :
    (exs (cal tb 19) tb (Ss.cons (S.ife (E.call 1002 (Es.cons (E.call 1006 (Es.cons (E.slot 5) Es.nil)) (Es.cons (E.lst (Es.cons (E.int 0) Es.nil)) Es.nil))).not
                        (Ss.cons (S.ret (E.bl false)) Ss.nil) Ss.nil) Ss.nil) none ρ h).wp Q E0 := by
  refine sp_cons ?_
  have s5 : ∀ h, slotK 5 ρ h = .ok d h := fun h => by unfold slotK; rw [h5]
  simp only [ex_ife, sp_toS, evT_not, evT_call, ev_call, evs_cons, evs_nil, ev_slot, wp_bind, s5, wp_ok]
  refine wp_mono (outcome_no (hd h (Gr.refl _)) hd) (fun v h1 ⟨n, e, e1, g⟩ => ?_) fun _ _ z => z.elim
  subst e
  have l1 : (1 : Nat) ≤ SL := by decide
  simp only [Bool.and_eq_true, Bool.or_eq_true, and_true, true_and, or_true, true_or, and_self, Int.reduceLE, Int.reduceLT, Int.reduceAbs, Nat.reducePow, Int.reduceToNat, Int.reducePow, Option.map_some, Option.map_none, beq_iff_eq, decide_eq_true_eq, bind_ok, toS_ok, lift_some, wp_ok, wp_bind, wp_lift_some, wp_ite, sp_toS, sp_ok, sp_ite, seqQ_nx, seqQ_rt, seqQ_bk, seqQ_ct, calQ_nx, calQ_rt, exs_nil, ex_asg, ex_fst, ex_ixs, ex_exp, ex_ret, ex_retn, ex_ife, ex_rai, ex_pass, ex_brk, ex_cont, ev_slot, ev_int, ev_str, ev_bl, ev_non, ev_con, ev_bin, ev_neg, ev_not, ev_and, ev_or, ev_isN, ev_notN, ev_cmp, ev_chn, ev_ite, ev_tup, ev_lst, ev_ix, ev_sl, ev_call, ev_mk, ev_meth, ev_bif, ev_bm, ev_isi, ev_fld, ev_xf, evT_bif, evT_slot, evT_call, evT_meth, evT_isi, evT_ix, evT_fld, evT_bl, tru_bl, evT_not, evT_and, evT_or, evT_cmp, evT_chn, evT_isN, evT_notN, evC_no, evC_so, evo_no, evo_so, evs_nil, evs_cons, evIt_seq, evIt_rng1, evIt_rng2, evIt_zip, eqD_int, at0, at1, at2, at3, addD_int, if_tt, if_ff, tysD, ty_int_int, ty_int_bool, ty_int_str, ty_int_tuple, ty_int_list, ty_bl_int, ty_bl_bool, ty_bl_str, ty_bl_tuple, ty_bl_list, ty_str_int, ty_str_bool, ty_str_str, ty_str_tuple, ty_str_list, ty_tup_int, ty_tup_bool, ty_tup_str, ty_tup_tuple, ty_tup_list, ty_non_int, ty_non_bool, ty_non_str, ty_non_tuple, ty_non_list, ty_frz_int, ty_frz_bool, ty_frz_str, ty_frz_tuple, ty_frz_list, tq_int, tq_bool, tq_str, tq_tuple, tq_list, slotK, negK, isNK, notNK, isN_non, isN_int, isN_bl, isN_str, isN_tup, isN_ref, andK, orK, truK, blK, intK, binD, intD, cmpD, icmpD, bifD, asgK, bindTg, bindTgs, tupK, lstK, isiK, bmK, fldK, startE, List.map_cons, List.map_nil, List.length_cons, List.length_nil, List.replicate_succ, List.replicate_zero, List.cons_append, List.nil_append, List.getElem?_cons_zero, List.getElem?_cons_succ, List.getElem?_nil, List.set_cons_zero, List.set_cons_succ, Nat.reduceSub, Nat.reduceAdd, Nat.reduceLT, if_true, if_false, reduceIte, Bool.not_true, Bool.not_false, reduceCtorEq, l1]
  refine wp_mono (eq_lst (k := 18) ((Gr.push h1 _).get e1) (get_push h1 _) (by decide) (fun x hx h' => ?_)) (fun v h2 ⟨e, g2⟩ => ?_) fun _ _ z => z.elim
  · have : x = .int 0 := by simpa using hx
    rw [this]; exact EQ_int
  · subst e
    simp only [Bool.and_eq_true, Bool.or_eq_true, and_true, true_and, or_true, true_or, and_self, Int.reduceLE, Int.reduceLT, Int.reduceAbs, Nat.reducePow, Int.reduceToNat, Int.reducePow, Option.map_some, Option.map_none, beq_iff_eq, decide_eq_true_eq, bind_ok, toS_ok, lift_some, wp_ok, wp_bind, wp_lift_some, wp_ite, sp_toS, sp_ok, sp_ite, seqQ_nx, seqQ_rt, seqQ_bk, seqQ_ct, calQ_nx, calQ_rt, exs_nil, ex_asg, ex_fst, ex_ixs, ex_exp, ex_ret, ex_retn, ex_ife, ex_rai, ex_pass, ex_brk, ex_cont, ev_slot, ev_int, ev_str, ev_bl, ev_non, ev_con, ev_bin, ev_neg, ev_not, ev_and, ev_or, ev_isN, ev_notN, ev_cmp, ev_chn, ev_ite, ev_tup, ev_lst, ev_ix, ev_sl, ev_call, ev_mk, ev_meth, ev_bif, ev_bm, ev_isi, ev_fld, ev_xf, evT_bif, evT_slot, evT_call, evT_meth, evT_isi, evT_ix, evT_fld, evT_bl, tru_bl, evT_not, evT_and, evT_or, evT_cmp, evT_chn, evT_isN, evT_notN, evC_no, evC_so, evo_no, evo_so, evs_nil, evs_cons, evIt_seq, evIt_rng1, evIt_rng2, evIt_zip, eqD_int, at0, at1, at2, at3, addD_int, if_tt, if_ff, tysD, ty_int_int, ty_int_bool, ty_int_str, ty_int_tuple, ty_int_list, ty_bl_int, ty_bl_bool, ty_bl_str, ty_bl_tuple, ty_bl_list, ty_str_int, ty_str_bool, ty_str_str, ty_str_tuple, ty_str_list, ty_tup_int, ty_tup_bool, ty_tup_str, ty_tup_tuple, ty_tup_list, ty_non_int, ty_non_bool, ty_non_str, ty_non_tuple, ty_non_list, ty_frz_int, ty_frz_bool, ty_frz_str, ty_frz_tuple, ty_frz_list, tq_int, tq_bool, tq_str, tq_tuple, tq_list, slotK, negK, isNK, notNK, isN_non, isN_int, isN_bl, isN_str, isN_tup, isN_ref, andK, orK, truK, blK, intK, binD, intD, cmpD, icmpD, bifD, asgK, bindTg, bindTgs, tupK, lstK, isiK, bmK, fldK, startE, List.map_cons, List.map_nil, List.length_cons, List.length_nil, List.replicate_succ, List.replicate_zero, List.cons_append, List.nil_append, List.getElem?_cons_zero, List.getElem?_cons_succ, List.getElem?_nil, List.set_cons_zero, List.set_cons_succ, Nat.reduceSub, Nat.reduceAdd, Nat.reduceLT, if_true, if_false, reduceIte, Bool.not_true, Bool.not_false, reduceCtorEq]
    exact q h2 ((g.trans (Gr.push h1 _)).trans g2)
theorem pns_len {w : Str} (hz : w.length ≤ 640) : (pns w).length ≤ SL := by
  unfold pns
  rw [List.length_map]
  exact Nat.le_trans (PyProof.Rows.split_le w ".") (by show w.length + 2 ≤ 16777216; omega)
theorem EQ_pp {k : Nat} {w : Str} {h : Hh} (hz : w.length ≤ 640) (c : isNon (pp w) = false) : EQ (k + 2) (pp w) h := by
  unfold pp at c ⊢
  split at c
  · cases c
  · rename_i hn
    rw [if_neg hn]
    refine eq_tup (pns_len hz) fun d hd h' => ?_
    rcases pns_flat d hd with e | ⟨i, e⟩
    · exfalso
      apply hn
      rw [List.any_eq_true]
      exact ⟨d, hd, by rw [e]; rfl⟩
    · rw [e]; exact EQ_int
/-- a text -/
theorem chk_txt {w : Str} {a0 a1 a2 a3 a4 a5 a7 a8 : Option D} {h : Hh} {Q : Fl → Hh → Prop} {E0 : Exn → PEnv → Hh → Prop} (hz : w.length ≤ 640) (q : ∀ b7 b8 h', Gr h h' → Q (.nx [a0, a1, a2, a3, a4, a5, some (.str w), b7, b8]) h') :
    (exs (cal tb 19) tb (.cons (.asg (.nm 7) (.call 1004 (.cons (.slot 6) .nil)))
  (.cons (.asg (.nm 8) (.ite (.isN (.slot 7)) (.lst (.cons (.int 0) .nil)) (.lst (.cons (.str "parsed") (.cons (.slot 7) .nil)))))
  (.cons (.ife (.not (.call 1002 (.cons (.call 1006 (.cons (.slot 6) .nil)) (.cons (.slot 8) .nil)))) (.cons (.ret (.bl false))
  .nil) .nil)
  .nil))) none [a0, a1, a2, a3, a4, a5, some (.str w), a7, a8] h).wp Q E0 := by
  refine sp_cons ?_
  simp only [Bool.and_eq_true, Bool.or_eq_true, and_true, true_and, or_true, true_or, and_self, Int.reduceLE, Int.reduceLT, Int.reduceAbs, Nat.reducePow, Int.reduceToNat, Int.reducePow, Option.map_some, Option.map_none, beq_iff_eq, decide_eq_true_eq, bind_ok, toS_ok, lift_some, wp_ok, wp_bind, wp_lift_some, wp_ite, sp_toS, sp_ok, sp_ite, seqQ_nx, seqQ_rt, seqQ_bk, seqQ_ct, calQ_nx, calQ_rt, exs_nil, ex_asg, ex_fst, ex_ixs, ex_exp, ex_ret, ex_retn, ex_ife, ex_rai, ex_pass, ex_brk, ex_cont, ev_slot, ev_int, ev_str, ev_bl, ev_non, ev_con, ev_bin, ev_neg, ev_not, ev_and, ev_or, ev_isN, ev_notN, ev_cmp, ev_chn, ev_ite, ev_tup, ev_lst, ev_ix, ev_sl, ev_call, ev_mk, ev_meth, ev_bif, ev_bm, ev_isi, ev_fld, ev_xf, evT_bif, evT_slot, evT_call, evT_meth, evT_isi, evT_ix, evT_fld, evT_bl, tru_bl, evT_not, evT_and, evT_or, evT_cmp, evT_chn, evT_isN, evT_notN, evC_no, evC_so, evo_no, evo_so, evs_nil, evs_cons, evIt_seq, evIt_rng1, evIt_rng2, evIt_zip, eqD_int, at0, at1, at2, at3, addD_int, if_tt, if_ff, tysD, ty_int_int, ty_int_bool, ty_int_str, ty_int_tuple, ty_int_list, ty_bl_int, ty_bl_bool, ty_bl_str, ty_bl_tuple, ty_bl_list, ty_str_int, ty_str_bool, ty_str_str, ty_str_tuple, ty_str_list, ty_tup_int, ty_tup_bool, ty_tup_str, ty_tup_tuple, ty_tup_list, ty_non_int, ty_non_bool, ty_non_str, ty_non_tuple, ty_non_list, ty_frz_int, ty_frz_bool, ty_frz_str, ty_frz_tuple, ty_frz_list, tq_int, tq_bool, tq_str, tq_tuple, tq_list, slotK, negK, isNK, notNK, isN_non, isN_int, isN_bl, isN_str, isN_tup, isN_ref, andK, orK, truK, blK, intK, binD, intD, cmpD, icmpD, bifD, asgK, bindTg, bindTgs, tupK, lstK, isiK, bmK, fldK, startE, List.map_cons, List.map_nil, List.length_cons, List.length_nil, List.replicate_succ, List.replicate_zero, List.cons_append, List.nil_append, List.getElem?_cons_zero, List.getElem?_cons_succ, List.getElem?_nil, List.set_cons_zero, List.set_cons_succ, Nat.reduceSub, Nat.reduceAdd, Nat.reduceLT, if_true, if_false, reduceIte, Bool.not_true, Bool.not_false, reduceCtorEq]
  refine wp_mono (law_parse_positions_spec hz) (fun v h1 ⟨e, g⟩ => ?_) fun _ _ z => z.elim
  subst e
  have l1 : (1 : Nat) ≤ SL := by decide
  have l2 : (2 : Nat) ≤ SL := by decide
  have fin : ∀ (n : Nat) (h2 : Hh), h2[n]? = some (.lst (expd w)) → Gr h h2 → (exs (cal tb 19) tb (.cons (.ife (.not (.call 1002 (.cons (.call 1006 (.cons (.slot 6) .nil)) (.cons (.slot 8) .nil)))) (.cons (.ret (.bl false))
  .nil) .nil) .nil) none [a0, a1, a2, a3, a4, a5, some (.str w), some (pp w), some (.ref n)] h2).wp Q E0 := by
    intro n h2 en g2
    refine sp_cons ?_
    simp only [Bool.and_eq_true, Bool.or_eq_true, and_true, true_and, or_true, true_or, and_self, Int.reduceLE, Int.reduceLT, Int.reduceAbs, Nat.reducePow, Int.reduceToNat, Int.reducePow, Option.map_some, Option.map_none, beq_iff_eq, decide_eq_true_eq, bind_ok, toS_ok, lift_some, wp_ok, wp_bind, wp_lift_some, wp_ite, sp_toS, sp_ok, sp_ite, seqQ_nx, seqQ_rt, seqQ_bk, seqQ_ct, calQ_nx, calQ_rt, exs_nil, ex_asg, ex_fst, ex_ixs, ex_exp, ex_ret, ex_retn, ex_ife, ex_rai, ex_pass, ex_brk, ex_cont, ev_slot, ev_int, ev_str, ev_bl, ev_non, ev_con, ev_bin, ev_neg, ev_not, ev_and, ev_or, ev_isN, ev_notN, ev_cmp, ev_chn, ev_ite, ev_tup, ev_lst, ev_ix, ev_sl, ev_call, ev_mk, ev_meth, ev_bif, ev_bm, ev_isi, ev_fld, ev_xf, evT_bif, evT_slot, evT_call, evT_meth, evT_isi, evT_ix, evT_fld, evT_bl, tru_bl, evT_not, evT_and, evT_or, evT_cmp, evT_chn, evT_isN, evT_notN, evC_no, evC_so, evo_no, evo_so, evs_nil, evs_cons, evIt_seq, evIt_rng1, evIt_rng2, evIt_zip, eqD_int, at0, at1, at2, at3, addD_int, if_tt, if_ff, tysD, ty_int_int, ty_int_bool, ty_int_str, ty_int_tuple, ty_int_list, ty_bl_int, ty_bl_bool, ty_bl_str, ty_bl_tuple, ty_bl_list, ty_str_int, ty_str_bool, ty_str_str, ty_str_tuple, ty_str_list, ty_tup_int, ty_tup_bool, ty_tup_str, ty_tup_tuple, ty_tup_list, ty_non_int, ty_non_bool, ty_non_str, ty_non_tuple, ty_non_list, ty_frz_int, ty_frz_bool, ty_frz_str, ty_frz_tuple, ty_frz_list, tq_int, tq_bool, tq_str, tq_tuple, tq_list, slotK, negK, isNK, notNK, isN_non, isN_int, isN_bl, isN_str, isN_tup, isN_ref, andK, orK, truK, blK, intK, binD, intD, cmpD, icmpD, bifD, asgK, bindTg, bindTgs, tupK, lstK, isiK, bmK, fldK, startE, List.map_cons, List.map_nil, List.length_cons, List.length_nil, List.replicate_succ, List.replicate_zero, List.cons_append, List.nil_append, List.getElem?_cons_zero, List.getElem?_cons_succ, List.getElem?_nil, List.set_cons_zero, List.set_cons_succ, Nat.reduceSub, Nat.reduceAdd, Nat.reduceLT, if_true, if_false, reduceIte, Bool.not_true, Bool.not_false, reduceCtorEq]
    refine wp_mono (outcome_str hz) (fun v h3 ⟨m, e, em, g3⟩ => ?_) fun _ _ z => z.elim
    subst e
    refine wp_mono (eq_lst (k := 18) em (g3.get en) ?_ (fun x hx h' => ?_)) (fun v h4 ⟨e, g4⟩ => ?_) fun _ _ z => z.elim
    · unfold expd
      split
      · exact l1
      · exact l2
    · unfold expd at hx
      split at hx
      · have : x = .int 0 := by simpa using hx
        rw [this]; exact EQ_int
      · rename_i c
        have : x = .str "parsed" ∨ x = pp w := by simpa using hx
        rcases this with rfl | rfl
        · exact EQ_str
        · exact EQ_pp hz (by simpa using c)
    · subst e
      simp only [Bool.and_eq_true, Bool.or_eq_true, and_true, true_and, or_true, true_or, and_self, Int.reduceLE, Int.reduceLT, Int.reduceAbs, Nat.reducePow, Int.reduceToNat, Int.reducePow, Option.map_some, Option.map_none, beq_iff_eq, decide_eq_true_eq, bind_ok, toS_ok, lift_some, wp_ok, wp_bind, wp_lift_some, wp_ite, sp_toS, sp_ok, sp_ite, seqQ_nx, seqQ_rt, seqQ_bk, seqQ_ct, calQ_nx, calQ_rt, exs_nil, ex_asg, ex_fst, ex_ixs, ex_exp, ex_ret, ex_retn, ex_ife, ex_rai, ex_pass, ex_brk, ex_cont, ev_slot, ev_int, ev_str, ev_bl, ev_non, ev_con, ev_bin, ev_neg, ev_not, ev_and, ev_or, ev_isN, ev_notN, ev_cmp, ev_chn, ev_ite, ev_tup, ev_lst, ev_ix, ev_sl, ev_call, ev_mk, ev_meth, ev_bif, ev_bm, ev_isi, ev_fld, ev_xf, evT_bif, evT_slot, evT_call, evT_meth, evT_isi, evT_ix, evT_fld, evT_bl, tru_bl, evT_not, evT_and, evT_or, evT_cmp, evT_chn, evT_isN, evT_notN, evC_no, evC_so, evo_no, evo_so, evs_nil, evs_cons, evIt_seq, evIt_rng1, evIt_rng2, evIt_zip, eqD_int, at0, at1, at2, at3, addD_int, if_tt, if_ff, tysD, ty_int_int, ty_int_bool, ty_int_str, ty_int_tuple, ty_int_list, ty_bl_int, ty_bl_bool, ty_bl_str, ty_bl_tuple, ty_bl_list, ty_str_int, ty_str_bool, ty_str_str, ty_str_tuple, ty_str_list, ty_tup_int, ty_tup_bool, ty_tup_str, ty_tup_tuple, ty_tup_list, ty_non_int, ty_non_bool, ty_non_str, ty_non_tuple, ty_non_list, ty_frz_int, ty_frz_bool, ty_frz_str, ty_frz_tuple, ty_frz_list, tq_int, tq_bool, tq_str, tq_tuple, tq_list, slotK, negK, isNK, notNK, isN_non, isN_int, isN_bl, isN_str, isN_tup, isN_ref, andK, orK, truK, blK, intK, binD, intD, cmpD, icmpD, bifD, asgK, bindTg, bindTgs, tupK, lstK, isiK, bmK, fldK, startE, List.map_cons, List.map_nil, List.length_cons, List.length_nil, List.replicate_succ, List.replicate_zero, List.cons_append, List.nil_append, List.getElem?_cons_zero, List.getElem?_cons_succ, List.getElem?_nil, List.set_cons_zero, List.set_cons_succ, Nat.reduceSub, Nat.reduceAdd, Nat.reduceLT, if_true, if_false, reduceIte, Bool.not_true, Bool.not_false, reduceCtorEq]
      exact q _ _ h4 ((g2.trans g3).trans g4)
  refine sp_cons ?_
  simp only [Bool.and_eq_true, Bool.or_eq_true, and_true, true_and, or_true, true_or, and_self, Int.reduceLE, Int.reduceLT, Int.reduceAbs, Nat.reducePow, Int.reduceToNat, Int.reducePow, Option.map_some, Option.map_none, beq_iff_eq, decide_eq_true_eq, bind_ok, toS_ok, lift_some, wp_ok, wp_bind, wp_lift_some, wp_ite, sp_toS, sp_ok, sp_ite, seqQ_nx, seqQ_rt, seqQ_bk, seqQ_ct, calQ_nx, calQ_rt, exs_nil, ex_asg, ex_fst, ex_ixs, ex_exp, ex_ret, ex_retn, ex_ife, ex_rai, ex_pass, ex_brk, ex_cont, ev_slot, ev_int, ev_str, ev_bl, ev_non, ev_con, ev_bin, ev_neg, ev_not, ev_and, ev_or, ev_isN, ev_notN, ev_cmp, ev_chn, ev_ite, ev_tup, ev_lst, ev_ix, ev_sl, ev_call, ev_mk, ev_meth, ev_bif, ev_bm, ev_isi, ev_fld, ev_xf, evT_bif, evT_slot, evT_call, evT_meth, evT_isi, evT_ix, evT_fld, evT_bl, tru_bl, evT_not, evT_and, evT_or, evT_cmp, evT_chn, evT_isN, evT_notN, evC_no, evC_so, evo_no, evo_so, evs_nil, evs_cons, evIt_seq, evIt_rng1, evIt_rng2, evIt_zip, eqD_int, at0, at1, at2, at3, addD_int, if_tt, if_ff, tysD, ty_int_int, ty_int_bool, ty_int_str, ty_int_tuple, ty_int_list, ty_bl_int, ty_bl_bool, ty_bl_str, ty_bl_tuple, ty_bl_list, ty_str_int, ty_str_bool, ty_str_str, ty_str_tuple, ty_str_list, ty_tup_int, ty_tup_bool, ty_tup_str, ty_tup_tuple, ty_tup_list, ty_non_int, ty_non_bool, ty_non_str, ty_non_tuple, ty_non_list, ty_frz_int, ty_frz_bool, ty_frz_str, ty_frz_tuple, ty_frz_list, tq_int, tq_bool, tq_str, tq_tuple, tq_list, slotK, negK, isNK, notNK, isN_non, isN_int, isN_bl, isN_str, isN_tup, isN_ref, andK, orK, truK, blK, intK, binD, intD, cmpD, icmpD, bifD, asgK, bindTg, bindTgs, tupK, lstK, isiK, bmK, fldK, startE, List.map_cons, List.map_nil, List.length_cons, List.length_nil, List.replicate_succ, List.replicate_zero, List.cons_append, List.nil_append, List.getElem?_cons_zero, List.getElem?_cons_succ, List.getElem?_nil, List.set_cons_zero, List.set_cons_succ, Nat.reduceSub, Nat.reduceAdd, Nat.reduceLT, if_true, if_false, reduceIte, Bool.not_true, Bool.not_false, reduceCtorEq, l1, l2]
  split
  · rename_i c
    refine fin _ _ ?_ (g.trans (Gr.push h1 _))
    unfold expd
    rw [c]
    exact get_push _ _
  · rename_i c
    refine fin _ _ ?_ (g.trans (Gr.push h1 _))
    unfold expd
    rw [if_neg c]
    exact get_push _ _
end MPk77

set_option Elab.async false
set_option linter.all false
set_option maxRecDepth 100000
set_option autoImplicit false
set_option maxHeartbeats 8000000
namespace MPk77
open PySem MP
theorem inv0 {l : List Int} : Inv ([] ++ [.lst (l.map D.int)] ++ [.lst [.ref 0, .int 0, .int 0, .int 1]] ++ [.lst []]) 0 := by
  refine ⟨⟨0, l, 0, 0, 1, rfl, rfl, by decide, by decide, by decide, by decide, rfl⟩, [], rfl, rfl, fun w hw => by cases hw⟩
theorem mulD_str {h : Hh} {x : Str} {k : Int} (h1 : 2 ≤ k) (h2 : 0 < x.length) (h3 : x.length * k.toNat ≤ 100000) : ∃ t : Str, (∀ h, mulD (.str x) (.int k) h = .ok (.str t) h) ∧ t.length = x.length * k.toNat := by
  refine ⟨⟨((List.replicate k.toNat x.cps.toList).flatten).toArray⟩, fun h => ?_, ?_⟩
  · unfold mulD
    dsimp only
    rw [if_pos]
    simp only [Bool.and_eq_true, decide_eq_true_eq]
    exact ⟨⟨h1, h2⟩, Nat.le_trans h3 (by decide)⟩
  · show ((List.replicate k.toNat x.cps.toList).flatten).toArray.size = _
    rw [List.size_toArray, List.length_flatten, List.map_replicate, List.sum_replicate_nat, Nat.mul_comm]
    rfl
theorem law_true0 : ∀ ns : List Int, ns.length ≤ 63 → ∃ h', cal tb 20 1007 [.frz (ns.map .int)] [] = .ok (.bl true) h' := by
  intro ns hns
  refine wp_ends ?_
  refine cal_wp (fd := d_law) rfl rfl ?_
  unfold d_law b_law
  have l4 : (4 : Nat) ≤ SL := by decide
  have l0 : (0 : Nat) ≤ SL := by decide
  refine sp_cons ?_
  simp only [Bool.and_eq_true, Bool.or_eq_true, and_true, true_and, or_true, true_or, and_self, Int.reduceLE, Int.reduceLT, Int.reduceAbs, Nat.reducePow, Int.reduceToNat, Int.reducePow, Option.map_some, Option.map_none, beq_iff_eq, decide_eq_true_eq, bind_ok, toS_ok, lift_some, wp_ok, wp_bind, wp_lift_some, wp_ite, sp_toS, sp_ok, sp_ite, seqQ_nx, seqQ_rt, seqQ_bk, seqQ_ct, calQ_nx, calQ_rt, exs_nil, ex_asg, ex_fst, ex_ixs, ex_exp, ex_ret, ex_retn, ex_ife, ex_rai, ex_pass, ex_brk, ex_cont, ev_slot, ev_int, ev_str, ev_bl, ev_non, ev_con, ev_bin, ev_neg, ev_not, ev_and, ev_or, ev_isN, ev_notN, ev_cmp, ev_chn, ev_ite, ev_tup, ev_lst, ev_ix, ev_sl, ev_call, ev_mk, ev_meth, ev_bif, ev_bm, ev_isi, ev_fld, ev_xf, evT_bif, evT_slot, evT_call, evT_meth, evT_isi, evT_ix, evT_fld, evT_bl, tru_bl, evT_not, evT_and, evT_or, evT_cmp, evT_chn, evT_isN, evT_notN, evC_no, evC_so, evo_no, evo_so, evs_nil, evs_cons, evIt_seq, evIt_rng1, evIt_rng2, evIt_zip, eqD_int, at0, at1, at2, at3, addD_int, if_tt, if_ff, tysD, ty_int_int, ty_int_bool, ty_int_str, ty_int_tuple, ty_int_list, ty_bl_int, ty_bl_bool, ty_bl_str, ty_bl_tuple, ty_bl_list, ty_str_int, ty_str_bool, ty_str_str, ty_str_tuple, ty_str_list, ty_tup_int, ty_tup_bool, ty_tup_str, ty_tup_tuple, ty_tup_list, ty_non_int, ty_non_bool, ty_non_str, ty_non_tuple, ty_non_list, ty_frz_int, ty_frz_bool, ty_frz_str, ty_frz_tuple, ty_frz_list, tq_int, tq_bool, tq_str, tq_tuple, tq_list, slotK, negK, isNK, notNK, isN_non, isN_int, isN_bl, isN_str, isN_tup, isN_ref, andK, orK, truK, blK, intK, binD, intD, cmpD, icmpD, bifD, asgK, bindTg, bindTgs, tupK, lstK, isiK, bmK, fldK, startE, List.map_cons, List.map_nil, List.length_cons, List.length_nil, List.replicate_succ, List.replicate_zero, List.cons_append, List.nil_append, List.getElem?_cons_zero, List.getElem?_cons_succ, List.getElem?_nil, List.set_cons_zero, List.set_cons_succ, Nat.reduceSub, Nat.reduceAdd, Nat.reduceLT, if_true, if_false, reduceIte, Bool.not_true, Bool.not_false, reduceCtorEq, listOf_frz, l4]
  refine sp_cons ?_
  simp only [Bool.and_eq_true, Bool.or_eq_true, and_true, true_and, or_true, true_or, and_self, Int.reduceLE, Int.reduceLT, Int.reduceAbs, Nat.reducePow, Int.reduceToNat, Int.reducePow, Option.map_some, Option.map_none, beq_iff_eq, decide_eq_true_eq, bind_ok, toS_ok, lift_some, wp_ok, wp_bind, wp_lift_some, wp_ite, sp_toS, sp_ok, sp_ite, seqQ_nx, seqQ_rt, seqQ_bk, seqQ_ct, calQ_nx, calQ_rt, exs_nil, ex_asg, ex_fst, ex_ixs, ex_exp, ex_ret, ex_retn, ex_ife, ex_rai, ex_pass, ex_brk, ex_cont, ev_slot, ev_int, ev_str, ev_bl, ev_non, ev_con, ev_bin, ev_neg, ev_not, ev_and, ev_or, ev_isN, ev_notN, ev_cmp, ev_chn, ev_ite, ev_tup, ev_lst, ev_ix, ev_sl, ev_call, ev_mk, ev_meth, ev_bif, ev_bm, ev_isi, ev_fld, ev_xf, evT_bif, evT_slot, evT_call, evT_meth, evT_isi, evT_ix, evT_fld, evT_bl, tru_bl, evT_not, evT_and, evT_or, evT_cmp, evT_chn, evT_isN, evT_notN, evC_no, evC_so, evo_no, evo_so, evs_nil, evs_cons, evIt_seq, evIt_rng1, evIt_rng2, evIt_zip, eqD_int, at0, at1, at2, at3, addD_int, if_tt, if_ff, tysD, ty_int_int, ty_int_bool, ty_int_str, ty_int_tuple, ty_int_list, ty_bl_int, ty_bl_bool, ty_bl_str, ty_bl_tuple, ty_bl_list, ty_str_int, ty_str_bool, ty_str_str, ty_str_tuple, ty_str_list, ty_tup_int, ty_tup_bool, ty_tup_str, ty_tup_tuple, ty_tup_list, ty_non_int, ty_non_bool, ty_non_str, ty_non_tuple, ty_non_list, ty_frz_int, ty_frz_bool, ty_frz_str, ty_frz_tuple, ty_frz_list, tq_int, tq_bool, tq_str, tq_tuple, tq_list, slotK, negK, isNK, notNK, isN_non, isN_int, isN_bl, isN_str, isN_tup, isN_ref, andK, orK, truK, blK, intK, binD, intD, cmpD, icmpD, bifD, asgK, bindTg, bindTgs, tupK, lstK, isiK, bmK, fldK, startE, List.map_cons, List.map_nil, List.length_cons, List.length_nil, List.replicate_succ, List.replicate_zero, List.cons_append, List.nil_append, List.getElem?_cons_zero, List.getElem?_cons_succ, List.getElem?_nil, List.set_cons_zero, List.set_cons_succ, Nat.reduceSub, Nat.reduceAdd, Nat.reduceLT, if_true, if_false, reduceIte, Bool.not_true, Bool.not_false, reduceCtorEq, l0]
  refine sp_cons ?_
  refine words_wp inv0 fun h1 m k1 x1 hm hm2 => ?_
  rw [seqQ_nx]
  refine sp_cons ?_
  refine star_wp x1 hm hm2 fun h2 x2 => ?_
  rw [seqQ_nx]
  obtain ⟨p2, ws, ew, lw, bw⟩ := x2
  obtain ⟨t, et, lt⟩ := joinD_ref ew (by omega) bw
  refine sp_cons ?_
  simp only [Bool.and_eq_true, Bool.or_eq_true, and_true, true_and, or_true, true_or, and_self, Int.reduceLE, Int.reduceLT, Int.reduceAbs, Nat.reducePow, Int.reduceToNat, Int.reducePow, Option.map_some, Option.map_none, beq_iff_eq, decide_eq_true_eq, bind_ok, toS_ok, lift_some, wp_ok, wp_bind, wp_lift_some, wp_ite, sp_toS, sp_ok, sp_ite, seqQ_nx, seqQ_rt, seqQ_bk, seqQ_ct, calQ_nx, calQ_rt, exs_nil, ex_asg, ex_fst, ex_ixs, ex_exp, ex_ret, ex_retn, ex_ife, ex_rai, ex_pass, ex_brk, ex_cont, ev_slot, ev_int, ev_str, ev_bl, ev_non, ev_con, ev_bin, ev_neg, ev_not, ev_and, ev_or, ev_isN, ev_notN, ev_cmp, ev_chn, ev_ite, ev_tup, ev_lst, ev_ix, ev_sl, ev_call, ev_mk, ev_meth, ev_bif, ev_bm, ev_isi, ev_fld, ev_xf, evT_bif, evT_slot, evT_call, evT_meth, evT_isi, evT_ix, evT_fld, evT_bl, tru_bl, evT_not, evT_and, evT_or, evT_cmp, evT_chn, evT_isN, evT_notN, evC_no, evC_so, evo_no, evo_so, evs_nil, evs_cons, evIt_seq, evIt_rng1, evIt_rng2, evIt_zip, eqD_int, at0, at1, at2, at3, addD_int, if_tt, if_ff, tysD, ty_int_int, ty_int_bool, ty_int_str, ty_int_tuple, ty_int_list, ty_bl_int, ty_bl_bool, ty_bl_str, ty_bl_tuple, ty_bl_list, ty_str_int, ty_str_bool, ty_str_str, ty_str_tuple, ty_str_list, ty_tup_int, ty_tup_bool, ty_tup_str, ty_tup_tuple, ty_tup_list, ty_non_int, ty_non_bool, ty_non_str, ty_non_tuple, ty_non_list, ty_frz_int, ty_frz_bool, ty_frz_str, ty_frz_tuple, ty_frz_list, tq_int, tq_bool, tq_str, tq_tuple, tq_list, slotK, negK, isNK, notNK, isN_non, isN_int, isN_bl, isN_str, isN_tup, isN_ref, andK, orK, truK, blK, intK, binD, intD, cmpD, icmpD, bifD, asgK, bindTg, bindTgs, tupK, lstK, isiK, bmK, fldK, startE, List.map_cons, List.map_nil, List.length_cons, List.length_nil, List.replicate_succ, List.replicate_zero, List.cons_append, List.nil_append, List.getElem?_cons_zero, List.getElem?_cons_succ, List.getElem?_nil, List.set_cons_zero, List.set_cons_succ, Nat.reduceSub, Nat.reduceAdd, Nat.reduceLT, if_true, if_false, reduceIte, Bool.not_true, Bool.not_false, reduceCtorEq, bmOk, isStrD, bmD, et]
  refine sp_cons ?_
  refine mut_wp p2 lt fun h3 t3 k3 p3 l3 => ?_
  rw [seqQ_nx]
  refine sp_cons ?_
  rw [ex_for, sp_toS]
  have l1 : (1 : Nat) ≤ SL := by decide
  have l2 : (2 : Nat) ≤ SL := by decide
  simp only [Bool.and_eq_true, Bool.or_eq_true, and_true, true_and, or_true, true_or, and_self, Int.reduceLE, Int.reduceLT, Int.reduceAbs, Nat.reducePow, Int.reduceToNat, Int.reducePow, Option.map_some, Option.map_none, beq_iff_eq, decide_eq_true_eq, bind_ok, toS_ok, lift_some, wp_ok, wp_bind, wp_lift_some, wp_ite, sp_toS, sp_ok, sp_ite, seqQ_nx, seqQ_rt, seqQ_bk, seqQ_ct, calQ_nx, calQ_rt, exs_nil, ex_asg, ex_fst, ex_ixs, ex_exp, ex_ret, ex_retn, ex_ife, ex_rai, ex_pass, ex_brk, ex_cont, ev_slot, ev_int, ev_str, ev_bl, ev_non, ev_con, ev_bin, ev_neg, ev_not, ev_and, ev_or, ev_isN, ev_notN, ev_cmp, ev_chn, ev_ite, ev_tup, ev_lst, ev_ix, ev_sl, ev_call, ev_mk, ev_meth, ev_bif, ev_bm, ev_isi, ev_fld, ev_xf, evT_bif, evT_slot, evT_call, evT_meth, evT_isi, evT_ix, evT_fld, evT_bl, tru_bl, evT_not, evT_and, evT_or, evT_cmp, evT_chn, evT_isN, evT_notN, evC_no, evC_so, evo_no, evo_so, evs_nil, evs_cons, evIt_seq, evIt_rng1, evIt_rng2, evIt_zip, eqD_int, at0, at1, at2, at3, addD_int, if_tt, if_ff, tysD, ty_int_int, ty_int_bool, ty_int_str, ty_int_tuple, ty_int_list, ty_bl_int, ty_bl_bool, ty_bl_str, ty_bl_tuple, ty_bl_list, ty_str_int, ty_str_bool, ty_str_str, ty_str_tuple, ty_str_list, ty_tup_int, ty_tup_bool, ty_tup_str, ty_tup_tuple, ty_tup_list, ty_non_int, ty_non_bool, ty_non_str, ty_non_tuple, ty_non_list, ty_frz_int, ty_frz_bool, ty_frz_str, ty_frz_tuple, ty_frz_list, tq_int, tq_bool, tq_str, tq_tuple, tq_list, slotK, negK, isNK, notNK, isN_non, isN_int, isN_bl, isN_str, isN_tup, isN_ref, andK, orK, truK, blK, intK, binD, intD, cmpD, icmpD, bifD, asgK, bindTg, bindTgs, tupK, lstK, isiK, bmK, fldK, startE, List.map_cons, List.map_nil, List.length_cons, List.length_nil, List.replicate_succ, List.replicate_zero, List.cons_append, List.nil_append, List.getElem?_cons_zero, List.getElem?_cons_succ, List.getElem?_nil, List.set_cons_zero, List.set_cons_succ, Nat.reduceSub, Nat.reduceAdd, Nat.reduceLT, if_true, if_false, reduceIte, Bool.not_true, Bool.not_false, reduceCtorEq, l1, l2, l4, itSeq_ref (get_push _ _)]
  have g0 : Gr h3 (h3 ++ [.lst [.str "0"]] ++ [.lst [.non, .int 0, .tup [.int 1, .int 2], .ref h3.length]]) := (Gr.push _ _).trans (Gr.push _ _)
  have eq0 : (h3 ++ [.lst [.str "0"]] ++ [.lst [.non, .int 0, .tup [.int 1, .int 2], .ref h3.length]])[h3.length]? = some (.lst [.str "0"]) := (Gr.push _ _).get (get_push _ _)
  refine for_wp [.non, .int 0, .tup [.int 1, .int 2], .ref h3.length] (fun i ρ h => ∃ v5, ρ = [some (.frz (ns.map .int)), some (.ref 1), some (.ref 2), k3, some (.str t3), v5, none, none, none] ∧ Gr (h3 ++ [.lst [.str "0"]] ++ [.lst [.non, .int 0, .tup [.int 1, .int 2], .ref h3.length]]) h) (fun i ρ h _ ⟨_, _, g⟩ => lstNx_gr (get_push _ _) g i) (fun i y ρ h4 hy ⟨v5, e, g⟩ => ?_) (fun ρ h4 ⟨v5, e, g⟩ => ?_) 4 0 _ _ rfl ⟨none, rfl, Gr.refl _⟩
  · subst e
    unfold forBody
    simp only [Bool.and_eq_true, Bool.or_eq_true, and_true, true_and, or_true, true_or, and_self, Int.reduceLE, Int.reduceLT, Int.reduceAbs, Nat.reducePow, Int.reduceToNat, Int.reducePow, Option.map_some, Option.map_none, beq_iff_eq, decide_eq_true_eq, bind_ok, toS_ok, lift_some, wp_ok, wp_bind, wp_lift_some, wp_ite, sp_toS, sp_ok, sp_ite, seqQ_nx, seqQ_rt, seqQ_bk, seqQ_ct, calQ_nx, calQ_rt, exs_nil, ex_asg, ex_fst, ex_ixs, ex_exp, ex_ret, ex_retn, ex_ife, ex_rai, ex_pass, ex_brk, ex_cont, ev_slot, ev_int, ev_str, ev_bl, ev_non, ev_con, ev_bin, ev_neg, ev_not, ev_and, ev_or, ev_isN, ev_notN, ev_cmp, ev_chn, ev_ite, ev_tup, ev_lst, ev_ix, ev_sl, ev_call, ev_mk, ev_meth, ev_bif, ev_bm, ev_isi, ev_fld, ev_xf, evT_bif, evT_slot, evT_call, evT_meth, evT_isi, evT_ix, evT_fld, evT_bl, tru_bl, evT_not, evT_and, evT_or, evT_cmp, evT_chn, evT_isN, evT_notN, evC_no, evC_so, evo_no, evo_so, evs_nil, evs_cons, evIt_seq, evIt_rng1, evIt_rng2, evIt_zip, eqD_int, at0, at1, at2, at3, addD_int, if_tt, if_ff, tysD, ty_int_int, ty_int_bool, ty_int_str, ty_int_tuple, ty_int_list, ty_bl_int, ty_bl_bool, ty_bl_str, ty_bl_tuple, ty_bl_list, ty_str_int, ty_str_bool, ty_str_str, ty_str_tuple, ty_str_list, ty_tup_int, ty_tup_bool, ty_tup_str, ty_tup_tuple, ty_tup_list, ty_non_int, ty_non_bool, ty_non_str, ty_non_tuple, ty_non_list, ty_frz_int, ty_frz_bool, ty_frz_str, ty_frz_tuple, ty_frz_list, tq_int, tq_bool, tq_str, tq_tuple, tq_list, slotK, negK, isNK, notNK, isN_non, isN_int, isN_bl, isN_str, isN_tup, isN_ref, andK, orK, truK, blK, intK, binD, intD, cmpD, icmpD, bifD, asgK, bindTg, bindTgs, tupK, lstK, isiK, bmK, fldK, startE, List.map_cons, List.map_nil, List.length_cons, List.length_nil, List.replicate_succ, List.replicate_zero, List.cons_append, List.nil_append, List.getElem?_cons_zero, List.getElem?_cons_succ, List.getElem?_nil, List.set_cons_zero, List.set_cons_succ, Nat.reduceSub, Nat.reduceAdd, Nat.reduceLT, if_true, if_false, reduceIte, Bool.not_true, Bool.not_false, reduceCtorEq]
    refine chk_no (d := y) rfl (fun h5 g5 => ?_) fun h5 g5 => ⟨_, rfl, g.trans g5⟩
    have my := List.mem_of_getElem? hy
    simp only [List.mem_cons, List.not_mem_nil, or_false] at my
    rcases my with rfl | rfl | rfl | rfl
    · rfl
    · rfl
    · rfl
    · exact ty_lst ((g.trans g5).get eq0) .str
  · subst e
    rw [seqQ_nx]
    have n1 : (("\n" : Str)).length = 1 := by decide +kernel
    have n2 : (("." : Str)).length = 1 := by decide +kernel
    have n3 : ((" " : Str)).length = 1 := by decide +kernel
    have n4 : ((".1" : Str)).length = 2 := by decide +kernel
    have n5 : (("+" : Str)).length = 1 := by decide +kernel
    have n6 : ((".1_0" : Str)).length = 4 := by decide +kernel
    have n7 : (("9" : Str)).length = 1 := by decide +kernel
    have n8 : (("0" : Str)).length = 1 := by decide +kernel
    obtain ⟨s9, m9, k9⟩ := mulD_str (h := h4) (x := "9") (k := 100) (by decide) (by decide +kernel) (by decide +kernel)
    obtain ⟨s0, m0, k0⟩ := mulD_str (h := h4) (x := "0") (k := 99) (by decide) (by decide +kernel) (by decide +kernel)
    rw [n7] at k9
    rw [n8] at k0
    have a1 : ∀ h, addD (.str t3) (.str "\n") h = .ok (.str (t3 ++ "\n")) h := fun h => addD_str (by omega)
    have a2 : ∀ h, addD (.str t3) (.str ".") h = .ok (.str (t3 ++ ".")) h := fun h => addD_str (by omega)
    have a3 : ∀ h, addD (.str " ") (.str t3) h = .ok (.str (" " ++ t3)) h := fun h => addD_str (by omega)
    have a4 : ∀ h, addD (.str t3) (.str ".1") h = .ok (.str (t3 ++ ".1")) h := fun h => addD_str (by omega)
    have q4 := len_app t3 ".1"
    have a5 : ∀ h, addD (.str (t3 ++ ".1")) (.str s0) h = .ok (.str (t3 ++ ".1" ++ s0)) h := fun h => addD_str (by simp at k0; omega)
    have a6 : ∀ h, addD (.str "+") (.str t3) h = .ok (.str ("+" ++ t3)) h := fun h => addD_str (by omega)
    have a7 : ∀ h, addD (.str t3) (.str ".1_0") h = .ok (.str (t3 ++ ".1_0")) h := fun h => addD_str (by omega)
    have l9 : (9 : Nat) ≤ SL := by decide
    refine sp_cons ?_
    rw [ex_for, sp_toS]
    simp only [Bool.and_eq_true, Bool.or_eq_true, and_true, true_and, or_true, true_or, and_self, Int.reduceLE, Int.reduceLT, Int.reduceAbs, Nat.reducePow, Int.reduceToNat, Int.reducePow, Option.map_some, Option.map_none, beq_iff_eq, decide_eq_true_eq, bind_ok, toS_ok, lift_some, wp_ok, wp_bind, wp_lift_some, wp_ite, sp_toS, sp_ok, sp_ite, seqQ_nx, seqQ_rt, seqQ_bk, seqQ_ct, calQ_nx, calQ_rt, exs_nil, ex_asg, ex_fst, ex_ixs, ex_exp, ex_ret, ex_retn, ex_ife, ex_rai, ex_pass, ex_brk, ex_cont, ev_slot, ev_int, ev_str, ev_bl, ev_non, ev_con, ev_bin, ev_neg, ev_not, ev_and, ev_or, ev_isN, ev_notN, ev_cmp, ev_chn, ev_ite, ev_tup, ev_lst, ev_ix, ev_sl, ev_call, ev_mk, ev_meth, ev_bif, ev_bm, ev_isi, ev_fld, ev_xf, evT_bif, evT_slot, evT_call, evT_meth, evT_isi, evT_ix, evT_fld, evT_bl, tru_bl, evT_not, evT_and, evT_or, evT_cmp, evT_chn, evT_isN, evT_notN, evC_no, evC_so, evo_no, evo_so, evs_nil, evs_cons, evIt_seq, evIt_rng1, evIt_rng2, evIt_zip, eqD_int, at0, at1, at2, at3, addD_int, if_tt, if_ff, tysD, ty_int_int, ty_int_bool, ty_int_str, ty_int_tuple, ty_int_list, ty_bl_int, ty_bl_bool, ty_bl_str, ty_bl_tuple, ty_bl_list, ty_str_int, ty_str_bool, ty_str_str, ty_str_tuple, ty_str_list, ty_tup_int, ty_tup_bool, ty_tup_str, ty_tup_tuple, ty_tup_list, ty_non_int, ty_non_bool, ty_non_str, ty_non_tuple, ty_non_list, ty_frz_int, ty_frz_bool, ty_frz_str, ty_frz_tuple, ty_frz_list, tq_int, tq_bool, tq_str, tq_tuple, tq_list, slotK, negK, isNK, notNK, isN_non, isN_int, isN_bl, isN_str, isN_tup, isN_ref, andK, orK, truK, blK, intK, binD, intD, cmpD, icmpD, bifD, asgK, bindTg, bindTgs, tupK, lstK, isiK, bmK, fldK, startE, List.map_cons, List.map_nil, List.length_cons, List.length_nil, List.replicate_succ, List.replicate_zero, List.cons_append, List.nil_append, List.getElem?_cons_zero, List.getElem?_cons_succ, List.getElem?_nil, List.set_cons_zero, List.set_cons_succ, Nat.reduceSub, Nat.reduceAdd, Nat.reduceLT, if_true, if_false, reduceIte, Bool.not_true, Bool.not_false, reduceCtorEq, m9, m0, a1, a2, a3, a4, a5, a6, a7, l9, itSeq_ref (get_push _ _)]
    refine for_wp ([t3, "", t3 ++ "\n", t3 ++ ".", " " ++ t3, s9, t3 ++ ".1" ++ s0, "+" ++ t3, t3 ++ ".1_0"].map D.str) (fun i ρ h => ∃ v6 v7 v8, ρ = [some (.frz (ns.map .int)), some (.ref 1), some (.ref 2), k3, some (.str t3), v5, v6, v7, v8] ∧ Gr (h4 ++ [.lst ([t3, "", t3 ++ "\n", t3 ++ ".", " " ++ t3, s9, t3 ++ ".1" ++ s0, "+" ++ t3, t3 ++ ".1_0"].map D.str)]) h) (fun i ρ h _ ⟨_, _, _, _, g⟩ => lstNx_gr (get_push _ _) g i) (fun i y ρ h5 hy ⟨v6, v7, v8, e, g5⟩ => ?_) (fun ρ h5 ⟨v6, v7, v8, e, g5⟩ => ?_) 9 0 _ _ rfl ⟨none, none, none, rfl, Gr.refl _⟩
    · subst e
      rw [List.getElem?_map] at hy
      obtain ⟨w, hw, rfl⟩ := Option.map_eq_some_iff.mp hy
      have lw : w.length ≤ 640 := by
        have mw := List.mem_of_getElem? hw
        have n0 : (("" : Str)).length = 0 := by decide +kernel
        simp only [List.mem_cons, List.not_mem_nil, or_false] at mw
        have k9' : s9.length ≤ 100 := by rw [k9]; decide
        have k0' : s0.length ≤ 99 := by rw [k0]; decide
        rcases mw with rfl | rfl | rfl | rfl | rfl | rfl | rfl | rfl | rfl <;> (try simp only [len_app]) <;> omega
      unfold forBody
      simp only [Bool.and_eq_true, Bool.or_eq_true, and_true, true_and, or_true, true_or, and_self, Int.reduceLE, Int.reduceLT, Int.reduceAbs, Nat.reducePow, Int.reduceToNat, Int.reducePow, Option.map_some, Option.map_none, beq_iff_eq, decide_eq_true_eq, bind_ok, toS_ok, lift_some, wp_ok, wp_bind, wp_lift_some, wp_ite, sp_toS, sp_ok, sp_ite, seqQ_nx, seqQ_rt, seqQ_bk, seqQ_ct, calQ_nx, calQ_rt, exs_nil, ex_asg, ex_fst, ex_ixs, ex_exp, ex_ret, ex_retn, ex_ife, ex_rai, ex_pass, ex_brk, ex_cont, ev_slot, ev_int, ev_str, ev_bl, ev_non, ev_con, ev_bin, ev_neg, ev_not, ev_and, ev_or, ev_isN, ev_notN, ev_cmp, ev_chn, ev_ite, ev_tup, ev_lst, ev_ix, ev_sl, ev_call, ev_mk, ev_meth, ev_bif, ev_bm, ev_isi, ev_fld, ev_xf, evT_bif, evT_slot, evT_call, evT_meth, evT_isi, evT_ix, evT_fld, evT_bl, tru_bl, evT_not, evT_and, evT_or, evT_cmp, evT_chn, evT_isN, evT_notN, evC_no, evC_so, evo_no, evo_so, evs_nil, evs_cons, evIt_seq, evIt_rng1, evIt_rng2, evIt_zip, eqD_int, at0, at1, at2, at3, addD_int, if_tt, if_ff, tysD, ty_int_int, ty_int_bool, ty_int_str, ty_int_tuple, ty_int_list, ty_bl_int, ty_bl_bool, ty_bl_str, ty_bl_tuple, ty_bl_list, ty_str_int, ty_str_bool, ty_str_str, ty_str_tuple, ty_str_list, ty_tup_int, ty_tup_bool, ty_tup_str, ty_tup_tuple, ty_tup_list, ty_non_int, ty_non_bool, ty_non_str, ty_non_tuple, ty_non_list, ty_frz_int, ty_frz_bool, ty_frz_str, ty_frz_tuple, ty_frz_list, tq_int, tq_bool, tq_str, tq_tuple, tq_list, slotK, negK, isNK, notNK, isN_non, isN_int, isN_bl, isN_str, isN_tup, isN_ref, andK, orK, truK, blK, intK, binD, intD, cmpD, icmpD, bifD, asgK, bindTg, bindTgs, tupK, lstK, isiK, bmK, fldK, startE, List.map_cons, List.map_nil, List.length_cons, List.length_nil, List.replicate_succ, List.replicate_zero, List.cons_append, List.nil_append, List.getElem?_cons_zero, List.getElem?_cons_succ, List.getElem?_nil, List.set_cons_zero, List.set_cons_succ, Nat.reduceSub, Nat.reduceAdd, Nat.reduceLT, if_true, if_false, reduceIte, Bool.not_true, Bool.not_false, reduceCtorEq]
      exact chk_txt lw fun b7 b8 h6 g6 => ⟨_, _, _, rfl, g5.trans g6⟩
    · subst e
      rw [seqQ_nx]
      refine sp_cons ?_
      simp only [Bool.and_eq_true, Bool.or_eq_true, and_true, true_and, or_true, true_or, and_self, Int.reduceLE, Int.reduceLT, Int.reduceAbs, Nat.reducePow, Int.reduceToNat, Int.reducePow, Option.map_some, Option.map_none, beq_iff_eq, decide_eq_true_eq, bind_ok, toS_ok, lift_some, wp_ok, wp_bind, wp_lift_some, wp_ite, sp_toS, sp_ok, sp_ite, seqQ_nx, seqQ_rt, seqQ_bk, seqQ_ct, calQ_nx, calQ_rt, exs_nil, ex_asg, ex_fst, ex_ixs, ex_exp, ex_ret, ex_retn, ex_ife, ex_rai, ex_pass, ex_brk, ex_cont, ev_slot, ev_int, ev_str, ev_bl, ev_non, ev_con, ev_bin, ev_neg, ev_not, ev_and, ev_or, ev_isN, ev_notN, ev_cmp, ev_chn, ev_ite, ev_tup, ev_lst, ev_ix, ev_sl, ev_call, ev_mk, ev_meth, ev_bif, ev_bm, ev_isi, ev_fld, ev_xf, evT_bif, evT_slot, evT_call, evT_meth, evT_isi, evT_ix, evT_fld, evT_bl, tru_bl, evT_not, evT_and, evT_or, evT_cmp, evT_chn, evT_isN, evT_notN, evC_no, evC_so, evo_no, evo_so, evs_nil, evs_cons, evIt_seq, evIt_rng1, evIt_rng2, evIt_zip, eqD_int, at0, at1, at2, at3, addD_int, if_tt, if_ff, tysD, ty_int_int, ty_int_bool, ty_int_str, ty_int_tuple, ty_int_list, ty_bl_int, ty_bl_bool, ty_bl_str, ty_bl_tuple, ty_bl_list, ty_str_int, ty_str_bool, ty_str_str, ty_str_tuple, ty_str_list, ty_tup_int, ty_tup_bool, ty_tup_str, ty_tup_tuple, ty_tup_list, ty_non_int, ty_non_bool, ty_non_str, ty_non_tuple, ty_non_list, ty_frz_int, ty_frz_bool, ty_frz_str, ty_frz_tuple, ty_frz_list, tq_int, tq_bool, tq_str, tq_tuple, tq_list, slotK, negK, isNK, notNK, isN_non, isN_int, isN_bl, isN_str, isN_tup, isN_ref, andK, orK, truK, blK, intK, binD, intD, cmpD, icmpD, bifD, asgK, bindTg, bindTgs, tupK, lstK, isiK, bmK, fldK, startE, List.map_cons, List.map_nil, List.length_cons, List.length_nil, List.replicate_succ, List.replicate_zero, List.cons_append, List.nil_append, List.getElem?_cons_zero, List.getElem?_cons_succ, List.getElem?_nil, List.set_cons_zero, List.set_cons_succ, Nat.reduceSub, Nat.reduceAdd, Nat.reduceLT, if_true, if_false, reduceIte, Bool.not_true, Bool.not_false, reduceCtorEq]
end MPk77

namespace MPk77
open PySem PySem.Spec L2 MP
theorem law_true : ∀ ns : List Int, ns.length ≤ 63 → ∃ h', cal tb 20 1007 [.frz (ns.map .int)] [] = .ok (.bl true) h' := law_true0
theorem all_mk {w : World} {K : PySem.W.Frag} {h : Heap} {mg : Str → Option Value} {fa : Addr} (X : K.In h) (G0 : h.Ns mainGlobals mg) (hfa : mg "law" = some (.ref fa))
    {fparse_number : Addr} {odparse_number anparse_number : Option Addr} {slparse_number : Array (Option Value)} {ocparse_number kVparse_number dcparse_number pmparse_number cdparse_number ctparse_number : Value} {fparse_positions : Addr} {odparse_positions anparse_positions : Option Addr} {slparse_positions : Array (Option Value)} {ocparse_positions kVparse_positions dcparse_positions pmparse_positions cdparse_positions ctparse_positions : Value} {fparse_state : Addr} {odparse_state anparse_state : Option Addr} {slparse_state : Array (Option Value)} {ocparse_state kVparse_state dcparse_state pmparse_state cdparse_state ctparse_state : Value} {f_law_draw : Addr} {od_law_draw an_law_draw : Option Addr} {sl_law_draw : Array (Option Value)} {oc_law_draw kV_law_draw dc_law_draw pm_law_draw cd_law_draw ct_law_draw : Value} {f_law_equal : Addr} {od_law_equal an_law_equal : Option Addr} {sl_law_equal : Array (Option Value)} {oc_law_equal kV_law_equal dc_law_equal pm_law_equal cd_law_equal ct_law_equal : Value} {f_law_parse_number : Addr} {od_law_parse_number an_law_parse_number : Option Addr} {sl_law_parse_number : Array (Option Value)} {oc_law_parse_number kV_law_parse_number dc_law_parse_number pm_law_parse_number cd_law_parse_number ct_law_parse_number : Value} {f_law_parse_positions : Addr} {od_law_parse_positions an_law_parse_positions : Option Addr} {sl_law_parse_positions : Array (Option Value)} {oc_law_parse_positions kV_law_parse_positions dc_law_parse_positions pm_law_parse_positions cd_law_parse_positions ct_law_parse_positions : Value} {f_law_mutated : Addr} {od_law_mutated an_law_mutated : Option Addr} {sl_law_mutated : Array (Option Value)} {oc_law_mutated kV_law_mutated dc_law_mutated pm_law_mutated cd_law_mutated ct_law_mutated : Value} {f_law_outcome : Addr} {od_law_outcome an_law_outcome : Option Addr} {sl_law_outcome : Array (Option Value)} {oc_law_outcome kV_law_outcome dc_law_outcome pm_law_outcome cd_law_outcome ct_law_outcome : Value} {flaw : Addr} {odlaw anlaw : Option Addr} {sllaw : Array (Option Value)} {oclaw kVlaw dclaw pmlaw cdlaw ctlaw : Value} {cRingError : Addr} {cParseError : Addr} {nmParseError qnParseError : Str} {NParseError : Addr} {bsParseError bmParseError sbParseError : List Value} {snParseError : List Str} {abParseError : Bool} {coParseError : Option Bool} {ddParseError : Option Addr} {kaParseError kbParseError kcParseError kdParseError keParseError : Option Value} {fParseError___init__ : Addr} {odParseError___init__ anParseError___init__ : Option Addr} {slParseError___init__ : Array (Option Value)} {ocParseError___init__ kVParseError___init__ dcParseError___init__ pmParseError___init__ cdParseError___init__ ctParseError___init__ : Value} {tDIGITS : Tok}
    (z0 : PySem.W.nsIn K mainGlobals "parse_number" = some (some (.ref fparse_number)))
    (z1 : K.lookup fparse_number = some ⟨ocparse_number, odparse_number, .func (PySem.W.fnOf "parse_number" "parse_number" (defArgs s_parse_number) (defBody s_parse_number) (defScope s_parse_number) .none kVparse_number dcparse_number pmparse_number anparse_number cdparse_number ctparse_number), slparse_number⟩)
    (z2 : PySem.W.codeIn K cdparse_number "parse_number" = true)
    (z3 : PySem.W.keepIn K (.ref fparse_number) = true)
    (z4 : PySem.W.nsIn K mainGlobals "parse_positions" = some (some (.ref fparse_positions)))
    (z5 : K.lookup fparse_positions = some ⟨ocparse_positions, odparse_positions, .func (PySem.W.fnOf "parse_positions" "parse_positions" (defArgs s_parse_positions) (defBody s_parse_positions) (defScope s_parse_positions) .none kVparse_positions dcparse_positions pmparse_positions anparse_positions cdparse_positions ctparse_positions), slparse_positions⟩)
    (z6 : PySem.W.codeIn K cdparse_positions "parse_positions" = true)
    (z7 : PySem.W.keepIn K (.ref fparse_positions) = true)
    (z8 : PySem.W.nsIn K mainGlobals "parse_state" = some (some (.ref fparse_state)))
    (z9 : K.lookup fparse_state = some ⟨ocparse_state, odparse_state, .func (PySem.W.fnOf "parse_state" "parse_state" (defArgs s_parse_state) (defBody s_parse_state) (defScope s_parse_state) .none kVparse_state dcparse_state pmparse_state anparse_state cdparse_state ctparse_state), slparse_state⟩)
    (z10 : PySem.W.codeIn K cdparse_state "parse_state" = true)
    (z11 : PySem.W.keepIn K (.ref fparse_state) = true)
    (z12 : PySem.W.nsIn K mainGlobals "_law_draw" = some (some (.ref f_law_draw)))
    (z13 : K.lookup f_law_draw = some ⟨oc_law_draw, od_law_draw, .func (PySem.W.fnOf "_law_draw" "_law_draw" (defArgs s__law_draw) (defBody s__law_draw) (defScope s__law_draw) .none kV_law_draw dc_law_draw pm_law_draw an_law_draw cd_law_draw ct_law_draw), sl_law_draw⟩)
    (z14 : PySem.W.codeIn K cd_law_draw "_law_draw" = true)
    (z15 : PySem.W.keepIn K (.ref f_law_draw) = true)
    (z16 : PySem.W.nsIn K mainGlobals "_law_equal" = some (some (.ref f_law_equal)))
    (z17 : K.lookup f_law_equal = some ⟨oc_law_equal, od_law_equal, .func (PySem.W.fnOf "_law_equal" "_law_equal" (defArgs s__law_equal) (defBody s__law_equal) (defScope s__law_equal) .none kV_law_equal dc_law_equal pm_law_equal an_law_equal cd_law_equal ct_law_equal), sl_law_equal⟩)
    (z18 : PySem.W.codeIn K cd_law_equal "_law_equal" = true)
    (z19 : PySem.W.keepIn K (.ref f_law_equal) = true)
    (z20 : PySem.W.nsIn K mainGlobals "_law_parse_number" = some (some (.ref f_law_parse_number)))
    (z21 : K.lookup f_law_parse_number = some ⟨oc_law_parse_number, od_law_parse_number, .func (PySem.W.fnOf "_law_parse_number" "_law_parse_number" (defArgs s__law_parse_number) (defBody s__law_parse_number) (defScope s__law_parse_number) .none kV_law_parse_number dc_law_parse_number pm_law_parse_number an_law_parse_number cd_law_parse_number ct_law_parse_number), sl_law_parse_number⟩)
    (z22 : PySem.W.codeIn K cd_law_parse_number "_law_parse_number" = true)
    (z23 : PySem.W.keepIn K (.ref f_law_parse_number) = true)
    (z24 : PySem.W.nsIn K mainGlobals "_law_parse_positions" = some (some (.ref f_law_parse_positions)))
    (z25 : K.lookup f_law_parse_positions = some ⟨oc_law_parse_positions, od_law_parse_positions, .func (PySem.W.fnOf "_law_parse_positions" "_law_parse_positions" (defArgs s__law_parse_positions) (defBody s__law_parse_positions) (defScope s__law_parse_positions) .none kV_law_parse_positions dc_law_parse_positions pm_law_parse_positions an_law_parse_positions cd_law_parse_positions ct_law_parse_positions), sl_law_parse_positions⟩)
    (z26 : PySem.W.codeIn K cd_law_parse_positions "_law_parse_positions" = true)
    (z27 : PySem.W.keepIn K (.ref f_law_parse_positions) = true)
    (z28 : PySem.W.nsIn K mainGlobals "_law_mutated" = some (some (.ref f_law_mutated)))
    (z29 : K.lookup f_law_mutated = some ⟨oc_law_mutated, od_law_mutated, .func (PySem.W.fnOf "_law_mutated" "_law_mutated" (defArgs s__law_mutated) (defBody s__law_mutated) (defScope s__law_mutated) .none kV_law_mutated dc_law_mutated pm_law_mutated an_law_mutated cd_law_mutated ct_law_mutated), sl_law_mutated⟩)
    (z30 : PySem.W.codeIn K cd_law_mutated "_law_mutated" = true)
    (z31 : PySem.W.keepIn K (.ref f_law_mutated) = true)
    (z32 : PySem.W.nsIn K mainGlobals "_law_outcome" = some (some (.ref f_law_outcome)))
    (z33 : K.lookup f_law_outcome = some ⟨oc_law_outcome, od_law_outcome, .func (PySem.W.fnOf "_law_outcome" "_law_outcome" (defArgs s__law_outcome) (defBody s__law_outcome) (defScope s__law_outcome) .none kV_law_outcome dc_law_outcome pm_law_outcome an_law_outcome cd_law_outcome ct_law_outcome), sl_law_outcome⟩)
    (z34 : PySem.W.codeIn K cd_law_outcome "_law_outcome" = true)
    (z35 : PySem.W.keepIn K (.ref f_law_outcome) = true)
    (z36 : PySem.W.nsIn K mainGlobals "law" = some (some (.ref flaw)))
    (z37 : K.lookup flaw = some ⟨oclaw, odlaw, .func (PySem.W.fnOf "law" "law" (defArgs s_law) (defBody s_law) (defScope s_law) .none kVlaw dclaw pmlaw anlaw cdlaw ctlaw), sllaw⟩)
    (z38 : PySem.W.codeIn K cdlaw "law" = true)
    (z39 : PySem.W.keepIn K (.ref flaw) = true)
    (z40 : PySem.W.nsIn K mainGlobals "RingError" = some (some (.ref cRingError)))
    (z41 : PySem.W.keepIn K (.ref cRingError) = true)
    (z42 : PySem.W.typeIn K (.ref cRingError) = some (.type "type"))
    (z43 : PySem.W.isClsIn K cRingError = true)
    (z44 : PySem.W.subIn K (.ref cRingError) (.type "BaseException") = some true)
    (z45 : PySem.W.nsIn K mainGlobals "ParseError" = some (some (.ref cParseError)))
    (z46 : PySem.W.keepIn K (.ref cParseError) = true)
    (z47 : PySem.W.typeIn K (.ref cParseError) = some (.type "type"))
    (z48 : PySem.W.isClsIn K cParseError = true)
    (z49 : PySem.W.subIn K (.ref cParseError) (.type "BaseException") = some true)
    (z50 : PySem.W.excIn K cRingError [.type "ValueError", .type "Exception", .type "BaseException", .type "object"] "ValueError.__new__" = true)
    (z51 : K.lookup cParseError = some (excClassObj nmParseError qnParseError cParseError NParseError bsParseError bmParseError true snParseError sbParseError abParseError coParseError ddParseError kaParseError kbParseError kcParseError kdParseError keParseError "ValueError.__new__"))
    (z52 : refsT [.type "ValueError", .type "Exception", .type "BaseException", .type "object"] bmParseError = true)
    (z53 : PySem.W.findIn K (.ref cParseError) "__setattr__" = some (some (.builtin "object.__setattr__")))
    (z54 : PySem.W.findIn K (.ref cParseError) "__getattribute__" = some (some (.builtin "BaseException.__getattribute__")))
    (z55 : PySem.W.findIn K (.ref cParseError) "__getattr__" = some none)
    (z56 : PySem.W.hasDictIn K cParseError = true)
    (z57 : PySem.W.findIn K (.ref cParseError) "__init__" = some (some (.ref fParseError___init__)))
    (z58 : PySem.W.typeIn K (.ref fParseError___init__) = some (.type "function"))
    (z59 : K.lookup fParseError___init__ = some ⟨ocParseError___init__, odParseError___init__, .func (PySem.W.fnOf "__init__" "ParseError.__init__" (defArgs s_ParseError___init__) (defBody s_ParseError___init__) (defScope s_ParseError___init__) .none kVParseError___init__ dcParseError___init__ pmParseError___init__ anParseError___init__ cdParseError___init__ ctParseError___init__), slParseError___init__⟩)
    (z60 : PySem.W.codeIn K cdParseError___init__ "ParseError.__init__" = true)
    (z61 : PySem.W.keepIn K (.ref fParseError___init__) = true)
    (z62 : PySem.W.findIn K (.ref cParseError) "line" = some none)
    (z63 : PySem.W.specialIn K (.ref cRingError) "__getattribute__" = some (some (.builtin "type.__getattribute__")))
    (z64 : PySem.W.readsIn K cRingError (.type "type") = true)
    (z65 : PySem.W.findCls K (.ref cRingError) (.type "type") "__init__" = some (.val (.builtin "ValueError.__init__")))
    (z66 : PySem.W.subIn K (.ref cRingError) (.ref cRingError) = some true)
    (z67 : PySem.W.subIn K (.ref cRingError) (.ref cParseError) = some false)
    (z68 : PySem.W.subIn K (.ref cParseError) (.ref cRingError) = some true)
    (z69 : PySem.W.subIn K (.ref cParseError) (.ref cParseError) = some true)
    (z70 : PySem.W.nsIn K mainGlobals "DIGITS" = some (some (.str "0123456789" tDIGITS)))
    (z71 : PySem.W.nsIn K mainGlobals "all" = some none)
    (z72 : PySem.W.nsIn K mainGlobals "bool" = some none)
    (z73 : PySem.W.nsIn K mainGlobals "int" = some none)
    (z74 : PySem.W.nsIn K mainGlobals "isinstance" = some none)
    (z75 : PySem.W.nsIn K mainGlobals "len" = some none)
    (z76 : PySem.W.nsIn K mainGlobals "list" = some none)
    (z77 : PySem.W.nsIn K mainGlobals "range" = some none)
    (z78 : PySem.W.nsIn K mainGlobals "str" = some none)
    (z79 : PySem.W.nsIn K mainGlobals "tuple" = some none)
    (z80 : PySem.W.nsIn K mainGlobals "zip" = some none)
    (z81 : PySem.W.specialIn K (.builtin "object.__class__") "__get__" = some (some (.builtin "getset_descriptor.__get__")))
    (z82 : PySem.W.takesIn K (.builtin "object.__class__") = some true) :
    ∃ fd : FuncData, (∀ (s : Shared) (u : Value), BindsTo s fd ⟨[u], []⟩ [("_law_script", u)]) ∧ ∀ base : Heap, K.In base → base.Ns mainGlobals mg → FnOk PySem.Challenge.rw_barringrings_k77_mutated_state_texts.prog w K mg base (L2.CX PySem.Challenge.rw_barringrings_k77_mutated_state_texts.prog w) 80 fa fd ["_law_script"] (spL K) := by
  have Fparse_number := fun_mk (st := s_parse_number) z1 z2 z3
  have Bparse_number := Fparse_number.binds (ps := ["word"]) fun _ _ _ _ _ _ us hl => match us, hl with | [_], _ => rfl
  have Fparse_positions := fun_mk (st := s_parse_positions) z5 z6 z7
  have Bparse_positions := Fparse_positions.binds (ps := ["word"]) fun _ _ _ _ _ _ us hl => match us, hl with | [_], _ => rfl
  have Fparse_state := fun_mk (st := s_parse_state) z9 z10 z11
  have Bparse_state := Fparse_state.binds (ps := ["text"]) fun _ _ _ _ _ _ us hl => match us, hl with | [_], _ => rfl
  have F_law_draw := fun_mk (st := s__law_draw) z13 z14 z15
  have B_law_draw := F_law_draw.binds (ps := ["_law_pool", "_law_count"]) fun _ _ _ _ _ _ us hl => match us, hl with | [_, _], _ => rfl
  have F_law_equal := fun_mk (st := s__law_equal) z17 z18 z19
  have B_law_equal := F_law_equal.binds (ps := ["_law_result", "_law_expected"]) fun _ _ _ _ _ _ us hl => match us, hl with | [_, _], _ => rfl
  have F_law_parse_number := fun_mk (st := s__law_parse_number) z21 z22 z23
  have B_law_parse_number := F_law_parse_number.binds (ps := ["_law_word"]) fun _ _ _ _ _ _ us hl => match us, hl with | [_], _ => rfl
  have F_law_parse_positions := fun_mk (st := s__law_parse_positions) z25 z26 z27
  have B_law_parse_positions := F_law_parse_positions.binds (ps := ["_law_word"]) fun _ _ _ _ _ _ us hl => match us, hl with | [_], _ => rfl
  have F_law_mutated := fun_mk (st := s__law_mutated) z29 z30 z31
  have B_law_mutated := F_law_mutated.binds (ps := ["_law_pool", "_law_text"]) fun _ _ _ _ _ _ us hl => match us, hl with | [_, _], _ => rfl
  have F_law_outcome := fun_mk (st := s__law_outcome) z33 z34 z35
  have B_law_outcome := F_law_outcome.binds (ps := ["_law_text"]) fun _ _ _ _ _ _ us hl => match us, hl with | [_], _ => rfl
  have Flaw := fun_mk (st := s_law) z37 z38 z39
  have Blaw := Flaw.binds (ps := ["_law_script"]) fun _ _ _ _ _ _ us hl => match us, hl with | [_], _ => rfl
  have FParseError___init__ := fun_mk (st := s_ParseError___init__) z59 z60 z61
  have BParseError___init__ := FParseError___init__.binds (ps := ["self", "line"]) fun _ _ _ _ _ _ us hl => match us, hl with | [_, _], _ => rfl
  have TParseError : XcC K cParseError "ValueError" "ValueError.__new__" "ValueError.__init__" [.type "ValueError", .type "Exception", .type "BaseException", .type "object"] := { F := PySem.F.excBase_ValueError, SF := PySem.F.store_ValueError, cls := ⟨_, _, _, _, _, _, _, _, _, _, _, _, _, _, _, z51, z52⟩, sa := z53, exC := z49, tyC := z47, kC := z46 }
  have OParseError___init__ : ∀ (w : World) (mg0 : Str → Option Value) (base : Heap), mg0 = mg → FnOk PySem.Challenge.rw_barringrings_k77_mutated_state_texts.prog w K mg0 base (L2.CX PySem.Challenge.rw_barringrings_k77_mutated_state_texts.prog w) 2 fParseError___init__ _ ["self", "line"] (spXi cParseError ["line"]) := fun w mg0 base e => by
    subst e
    exact ok_xi1 FParseError___init__ bo_ParseError___init__ sc_ParseError___init__ (by decide +kernel) (by decide +kernel) (by decide +kernel) (by decide +kernel) (by decide +kernel) (by decide +kernel) (by decide) TParseError (.inl ⟨_, _, PySem.W.mg_of X G0 z40, z63, z64, z65⟩) (by decide +kernel) z62
  have ea : flaw = fa := by
    have e := hfa.symm.trans (PySem.W.mg_of X G0 z36)
    cases e
    rfl
  subst ea
  refine ⟨PySem.W.fnOf "law" "law" (defArgs s_law) (defBody s_law) (defScope s_law) .none kVlaw dclaw pmlaw anlaw cdlaw ctlaw, fun s v => .of_eq rfl, fun base _ _ => ?fo⟩
  case fo =>
   have XRingError : XcQ (sta K fparse_number fparse_positions fparse_state f_law_draw f_law_equal f_law_parse_number f_law_parse_positions f_law_mutated f_law_outcome flaw cRingError cParseError) tb K 26 := { F := ⟨_, _, _, _, PySem.F.excBase_ValueError, z50⟩, kC := z41, exC := z44, tyC := z42, xf := rfl, xc := by simp [sta] }
   have XParseError : XcP (sta K fparse_number fparse_positions fparse_state f_law_draw f_law_equal f_law_parse_number f_law_parse_positions f_law_mutated f_law_outcome flaw cRingError cParseError) tb PySem.Challenge.rw_barringrings_k77_mutated_state_texts.prog w K mg base 22 := { T := ⟨_, _, _, _, TParseError⟩, xc := by simp [sta], ini := ⟨_, _, _, [49], z57, z58, OParseError___init__ w mg base rfl, BParseError___init__, rfl, by decide, by decide, (fun f hf => by
      simp only [List.mem_cons, List.not_mem_nil, or_false] at hf
      subst hf
      exact ⟨z54, z55, z49, z56, z62⟩)⟩ }
   have R : PrgIn G (sta K fparse_number fparse_positions fparse_state f_law_draw f_law_equal f_law_parse_number f_law_parse_positions f_law_mutated f_law_outcome flaw cRingError cParseError) tb tl PySem.Challenge.rw_barringrings_k77_mutated_state_texts.prog w K mg base := {
     hK := rfl
     xs := rfl
     tbl := fun _ => rfl
     defs := ⟨⟨_, _, s_parse_number, _, ["word", "sign"], ["word"], Fparse_number, sc_parse_number, Bparse_number, co_parse_number, rfl, rfl⟩, ⟨_, _, s_parse_positions, _, ["word", "numbers", "part"], ["word"], Fparse_positions, sc_parse_positions, Bparse_positions, co_parse_positions, rfl, rfl⟩, ⟨_, _, s_parse_state, _, ["text", "state"], ["text"], Fparse_state, sc_parse_state, Bparse_state, co_parse_state, rfl, rfl⟩, ⟨_, _, s__law_draw, _, ["_law_pool", "_law_count", "_law_result", "_law_cell"], ["_law_pool", "_law_count"], F_law_draw, sc__law_draw, B_law_draw, co__law_draw, rfl, rfl⟩, ⟨_, _, s__law_equal, _, ["_law_result", "_law_expected", "_law_like", "_law_one", "_law_other"], ["_law_result", "_law_expected"], F_law_equal, sc__law_equal, B_law_equal, co__law_equal, rfl, rfl⟩, ⟨_, _, s__law_parse_number, _, ["_law_word", "_law_sign"], ["_law_word"], F_law_parse_number, sc__law_parse_number, B_law_parse_number, co__law_parse_number, rfl, rfl⟩, ⟨_, _, s__law_parse_positions, _, ["_law_word", "_law_numbers", "_law_part"], ["_law_word"], F_law_parse_positions, sc__law_parse_positions, B_law_parse_positions, co__law_parse_positions, rfl, rfl⟩, ⟨_, _, s__law_mutated, _, ["_law_pool", "_law_text", "_law_kind", "_law_at", "_law_sign"], ["_law_pool", "_law_text"], F_law_mutated, sc__law_mutated, B_law_mutated, co__law_mutated, rfl, rfl⟩, ⟨_, _, s__law_outcome, _, ["_law_text", "_law_result", "e"], ["_law_text"], F_law_outcome, sc__law_outcome, B_law_outcome, co__law_outcome, rfl, rfl⟩, ⟨_, _, s_law, _, ["_law_script", "_law_pool", "_law_words", "_law_k", "_law_text", "_law_value", "_law_one", "_law_positions", "_law_expected"], ["_law_script"], Flaw, sc_law, Blaw, co_law, rfl, rfl⟩, trivial⟩
     gls := ⟨⟨PySem.W.mg_of X G0 z0, _, rfl⟩, ⟨PySem.W.mg_of X G0 z4, _, rfl⟩, ⟨PySem.W.mg_of X G0 z8, _, rfl⟩, ⟨PySem.W.mg_of X G0 z12, _, rfl⟩, ⟨PySem.W.mg_of X G0 z16, _, rfl⟩, ⟨PySem.W.mg_of X G0 z20, _, rfl⟩, ⟨PySem.W.mg_of X G0 z24, _, rfl⟩, ⟨PySem.W.mg_of X G0 z28, _, rfl⟩, ⟨PySem.W.mg_of X G0 z32, _, rfl⟩, ⟨PySem.W.mg_of X G0 z36, _, rfl⟩, ⟨PySem.W.mg_of X G0 z40, XRingError⟩, ⟨PySem.W.mg_of X G0 z45, XParseError⟩, ⟨.str "0123456789", _, PySem.W.mg_of X G0 z70, ⟨_, rfl⟩, fun _ _ => .str _⟩, trivial⟩
     bls := ⟨PySem.W.mg_none_of X G0 z71, PySem.W.mg_none_of X G0 z72, PySem.W.mg_none_of X G0 z73, PySem.W.mg_none_of X G0 z74, PySem.W.mg_none_of X G0 z75, PySem.W.mg_none_of X G0 z76, PySem.W.mg_none_of X G0 z77, PySem.W.mg_none_of X G0 z78, PySem.W.mg_none_of X G0 z79, PySem.W.mg_none_of X G0 z80, trivial⟩
     hF := ⟨fun c hc => (by cases hc), fun c hc => (by cases hc), z81, z82, fun c hc => (by cases hc), fun c hc => (by cases hc), fun c hc => (by cases hc), fun c hc => (by cases hc)⟩
     inj := nm_inj (l := NM) (by decide +kernel)
     fls := ⟨⟨rfl, fun c hc => (by cases hc)⟩, trivial⟩
     sub := fun E C hE hC => AllL.get (l := [26, 22]) (P := fun C => PySem.W.exmOne K (.ref ((sta K fparse_number fparse_positions fparse_state f_law_draw f_law_equal f_law_parse_number f_law_parse_positions f_law_mutated f_law_outcome flaw cRingError cParseError).cA E)) (.ref ((sta K fparse_number fparse_positions fparse_state f_law_draw f_law_equal f_law_parse_number f_law_parse_positions f_law_mutated f_law_outcome flaw cRingError cParseError).cA C)) = some (tb.sub E C)) (AllL.get (l := [26, 22]) (P := fun E => AllL (fun C => PySem.W.exmOne K (.ref ((sta K fparse_number fparse_positions fparse_state f_law_draw f_law_equal f_law_parse_number f_law_parse_positions f_law_mutated f_law_outcome flaw cRingError cParseError).cA E)) (.ref ((sta K fparse_number fparse_positions fparse_state f_law_draw f_law_equal f_law_parse_number f_law_parse_positions f_law_mutated f_law_outcome flaw cRingError cParseError).cA C)) = some (tb.sub E C)) [26, 22]) ⟨⟨exm_of z44 z43 z42 z66, exm_of z49 z48 z47 z67, trivial⟩, ⟨exm_of z44 z43 z42 z68, exm_of z49 z48 z47 z69, trivial⟩, trivial⟩ hE) hC
     mes := trivial }
   exact prg_law (prg_of R) rfl (n := 20) (i := 1007) (fd := d_law) rfl (prg_one (prg_of R) 19 (prg_fn (prg_of R) 19) rfl Flaw sc_law Blaw co_law rfl rfl) law_true
end MPk77
open PySem PySem.W PyProof.Rows in
set_option maxRecDepth 100000 in
set_option maxHeartbeats 0 in
theorem PySem.Challenge.cw_barringrings_k77_mutated_state_texts_holds : PySem.Challenge.rw_barringrings_k77_mutated_state_texts.Holds := by
  w_on; o_law; k_head; (case hw => w_witness2)
  k_fill
  refine L2.walk_of (n := 63) (k := 80) (x := "_law_script") (CX := fun w => L2.CX PySem.Challenge.rw_barringrings_k77_mutated_state_texts.prog w) (sp := fun w => MP.spL _) rfl (by decide) rfl ⟨rfl, by decide, by decide⟩ (fun w h Y => PySem.W.kIn_of Y) ?F (fun w H a ns hl hO hS => ⟨a, ns, rfl, hl, hO, hS, fun _ => rfl⟩) (fun w H s e s' ⟨_, _, _, _, _, _, _, _, _, _, _, _, z⟩ => z)
  case F =>
    intro w mg fa h KX G hmg
    refine' MPk77.all_mk KX G hmg ?z0 ?z1 ?z2 ?z3 ?z4 ?z5 ?z6 ?z7 ?z8 ?z9 ?z10 ?z11 ?z12 ?z13 ?z14 ?z15 ?z16 ?z17 ?z18 ?z19 ?z20 ?z21 ?z22 ?z23 ?z24 ?z25 ?z26 ?z27 ?z28 ?z29 ?z30 ?z31 ?z32 ?z33 ?z34 ?z35 ?z36 ?z37 ?z38 ?z39 ?z40 ?z41 ?z42 ?z43 ?z44 ?z45 ?z46 ?z47 ?z48 ?z49 ?z50 ?z51 ?z52 ?z53 ?z54 ?z55 ?z56 ?z57 ?z58 ?z59 ?z60 ?z61 ?z62 ?z63 ?z64 ?z65 ?z66 ?z67 ?z68 ?z69 ?z70 ?z71 ?z72 ?z73 ?z74 ?z75 ?z76 ?z77 ?z78 ?z79 ?z80 ?z81 ?z82
    (case z0 => k_is)
    (case z1 => k_is)
    (case z2 => k_is)
    (case z3 => k_is)
    (case z4 => k_is)
    (case z5 => k_is)
    (case z6 => k_is)
    (case z7 => k_is)
    (case z8 => k_is)
    (case z9 => k_is)
    (case z10 => k_is)
    (case z11 => k_is)
    (case z12 => k_is)
    (case z13 => k_is)
    (case z14 => k_is)
    (case z15 => k_is)
    (case z16 => k_is)
    (case z17 => k_is)
    (case z18 => k_is)
    (case z19 => k_is)
    (case z20 => k_is)
    (case z21 => k_is)
    (case z22 => k_is)
    (case z23 => k_is)
    (case z24 => k_is)
    (case z25 => k_is)
    (case z26 => k_is)
    (case z27 => k_is)
    (case z28 => k_is)
    (case z29 => k_is)
    (case z30 => k_is)
    (case z31 => k_is)
    (case z32 => k_is)
    (case z33 => k_is)
    (case z34 => k_is)
    (case z35 => k_is)
    (case z36 => k_is)
    (case z37 => k_is)
    (case z38 => k_is)
    (case z39 => k_is)
    (case z40 => k_is)
    (case z41 => k_is)
    (case z42 => k_is)
    (case z43 => k_is)
    (case z44 => k_is)
    (case z45 => k_is)
    (case z46 => k_is)
    (case z47 => k_is)
    (case z48 => k_is)
    (case z49 => k_is)
    (case z50 => k_exc)
    (case z51 => k_is)
    (case z52 => rfl)
    (case z53 => k_is)
    (case z54 => k_is)
    (case z55 => k_is)
    (case z56 => k_is)
    (case z57 => k_is)
    (case z58 => k_is)
    (case z59 => k_is)
    (case z60 => k_is)
    (case z61 => k_is)
    (case z62 => k_is)
    (case z63 => k_is)
    (case z64 => k_is)
    (case z65 => k_is)
    (case z66 => first | rfl | k_is)
    (case z67 => first | rfl | k_is)
    (case z68 => first | rfl | k_is)
    (case z69 => first | rfl | k_is)
    (case z70 => k_is)
    (case z71 => k_is)
    (case z72 => k_is)
    (case z73 => k_is)
    (case z74 => k_is)
    (case z75 => k_is)
    (case z76 => k_is)
    (case z77 => k_is)
    (case z78 => k_is)
    (case z79 => k_is)
    (case z80 => k_is)
    (case z81 => first | k_is | rfl | decide +kernel)
    (case z82 => first | k_is | rfl | decide +kernel)
