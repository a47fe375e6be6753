import PyProof.Rows.All
import HandS.ForMost
import HandS.ForExc
import HandS.Wide
import HandS.SortInts
import HandS.Deep
import HandS.TupAny
import HandS.Conv
import HandS.Rev
import HandS.Small
import HandS.Style
import HandS.IsInst
import HandS.Zip
import HandS.Walk
import HandS.SetFor
import HandS.More
import PyProof.ReprRoads
import HandS.TupMul
import KE.KSortedM
import HandS.ExcInit
import HandS.Property
import HandS.ExcOwn
import HandS.TryMany
import KE.KExcIs
import HandS.SortKw
import KE.SortKeyHeap
import HandS.FStr
import HandS.RaiseMore
import HandS.Ends
import PyProof.ReprBulk
import PySem.Challenge.RW_backafter_k73_whole_live_rows_undone
set_option Elab.async false
section
set_option Elab.async false
set_option linter.all false
namespace Vc
open PySem PySem.Spec

abbrev D := PyData
structure Xn where
  c : Nat
  f : Option D
/-- what a slot holds: nothing known, plain data, a list of its own, a foreign list, an error that was caught -/
inductive Sl where
  | no | v (d : D) | o (ds : List D) | f (ds : List D) | x (x : Xn)
abbrev En := List Sl
/-- what an expression gives: plain data, the thing of a slot, a new list -/
inductive RV where
  | v (d : D) | b (i : Nat) | o (ds : List D)
/-- an exception's class: its number (0 the base of all, 1 ValueError), its field's name -/
structure XI where
  id : Nat
  f : Option Str
  deriving DecidableEq
def subX (c k : Nat) : Bool := decide (k = c) || (decide (k = 0) || decide (k = 1))
/-- what an except suite reckons: e.f, isinstance(e, C), tests, a pair, a slot beside a number, 'text' + repr(e.f) -/
inductive Hx where
  | int (i : Int) | str (s : Str) | non | bl (b : Bool)
  | fld (f : Str) | isC (k : Nat)
  | nt (a : Hx) | bop (and : Bool) (a b : Hx)
  | ite (c a b : Hx)
  | tup2 (a b : Hx)
  | veq (i : Nat) (k : Int)
  | cat (s : Str) (f : Str)
  | ng (i : Int)
  | me
/-- an except clause: its class, the slot of its name, the slot that is stored, what is stored -/
structure Hd where
  c : Nat
  n : Option Nat
  i : Nat
  e : Hx
inductive R where
  | st | ok (r : RV) (e : En) | ex (x : Xn) (e : En)
inductive RL where
  | st | ok (rs : List RV) (e : En) | ex (x : Xn) (e : En)
inductive RT where
  | st | ok (b : Bool) (e : En) | ex (x : Xn) (e : En)
inductive RI where
  | st | ok (ds : List D) (lk : Option Nat) (e : En) | ex (x : Xn) (e : En)
inductive O where
  | st | nx (e : En) | rt (r : RV) (e : En) | bk (e : En) | ct (e : En) | ex (x : Xn) (e : En)
/-- arguments of a def, what comes back -/
inductive AV where
  | v (d : D) | m (ds : List D) | f (ds : List D) | q
inductive CV where
  | v (d : D) | p (j : Nat) | o (ds : List D)
inductive CO where
  | st | rt (r : CV) (fs : List Sl) | ex (x : Xn) (fs : List Sl)
abbrev Ph := Nat → List AV → CO
inductive Md where
  | v | m | f | q
  deriving DecidableEq

inductive Op2 where
  | add | sub | mul | fdiv | mod | pow
  deriving DecidableEq
inductive Cp where
  | eq | ne | lt | le | gt | ge | inn | nin
  deriving DecidableEq
inductive Ty where
  | int | bool | str | list | tuple
  deriving DecidableEq
/-- built-in functions of one or two values -/
inductive Bi where
  | len | abs | int | max | min | sum | sorted | list | tuple | repr | str | all | any
  deriving DecidableEq
/-- methods that leave their receiver; methods that change it -/
inductive Mt where
  | index | count | join | split | startswith | endswith | partition
  deriving DecidableEq
inductive Mu where
  | append | pop | popAt | insert | extend
  deriving DecidableEq
inductive Tg where
  | n (i : Nat) | t (is : List Nat)
  deriving DecidableEq

mutual
inductive Ex where
  | int (i : Int) | bl (b : Bool) | non | str (s : Str)
  | var (i : Nat)
  | con (x : Str) (d : D)
  | op (o : Op2) (a b : Ex)
  | neg (a : Ex)
  | cmp (o : Cp) (a b : Ex)
  | isn (a : Ex) | nisn (a : Ex)
  | chn (a : Ex) (o : Cp) (b : Ex) (o2 : Cp) (c : Ex)
  | bop (and : Bool) (es : Exs)
  | nt (a : Ex)
  | ite (c a b : Ex)
  | lst (es : Exs) | tup (es : Exs)
  | ix (a i : Ex)
  | sl (a : Ex) (lo hi : Exs)
  | bi (f : Bi) (es : Exs)
  | lrg (es : Exs)
  | isi (a : Ex) (t : Ty)
  | mth (m : Mt) (a : Ex) (es : Exs)
  | mut (m : Mu) (a : Ex) (es : Exs)
  | call (f : Nat) (es : Exs)
  | callK (f : Nat) (es kes : Exs) (pm : List Nat)
  | lc (s : Src) (tg : Tg) (own : List Nat) (ts : Exs) (elt : Ex)
  | callB (f : Nat) (es : Exs)
  | callKB (f : Nat) (es kes : Exs) (pm : List Nat)
  | trg (es : Exs)
  | slp (a : Ex) (lo hi st : Exs)
  | isb (ng : Bool) (a b : Ex)
  | srk (a : Ex)
  | lc2 (s : Src) (tg : Tg) (own : List Nat) (s1 : Src) (tg1 : Tg) (own1 : List Nat) (elt : Ex)
  | kdi (ng : Bool) (x : Str) (K : List (Str × D)) (a : Ex)
  | kdx (x : Str) (K : List (Str × D)) (a : Ex)
  | fmt (a : Ex)
  | jn (es : Exs)
  | dc0
  | callI (fns : List Nat) (a : Ex) (es : Exs)
  | isx (i : Nat) (ks : List Nat) (tup : Bool)
  | xno (ng : Bool) (i : Nat)
  | xfl (i : Nat) (f : Str) (cs : List Nat)
  /-- the slot j of the attribute x of the object in slot i; the object itself, if the attribute's slot j is known -/
  | atr (j i : Nat) (x : Str)
  | obj (i j : Nat)
  /-- a call to which objects are handed: its form, the def, what is handed, the attributes' slots that go with it -/
  | callQ (w : Nat) (f : Nat) (es : Exs) (gs : List Nat)
inductive Exs where
  | nil | cons (e : Ex) (es : Exs)
inductive Src where
  | it (tup brw : Bool) (e : Ex)
  | rng (es : Exs)
  | enu (brw : Bool) (e : Ex)
  | zip (a b : Ex)
  | rvt (a : Ex)
  | chs (a : Ex)
end

mutual
inductive Sm where
  | pass
  | ex (e : Ex)
  | asg (i : Nat) (own : Bool) (e : Ex)
  | par (i : Nat) (oi : Bool) (j : Nat) (oj : Bool) (a b : Ex)
  | unp (is : List Nat) (e : Ex)
  | six (a : Ex) (k : Ex) (e : Ex)
  | aug (i : Nat) (o : Op2) (e : Ex)
  | augs (a : Ex) (k : Ex) (o : Op2) (e : Ex)
  | ite (c : Ex) (a b : Sms)
  | whl (c : Ex) (b : Sms)
  | for (s : Src) (tg : Tg) (b : Sms)
  | ret (e : Ex)
  | retN
  | brk | cnt
  | raise (c : Nat) (es : Exs)
  | never
  | mas (ts : List (Nat × Bool)) (es : Exs)
  | try (b : Sms) (hs : List Hd)
  /-- x = C(): the object's slot, its class, its attributes' slots (empty lists at first); x, y = C(), b; x, y = C(), C() -/
  | newQ (i : Nat) (cn : Str) (gs : List Nat)
  | newE (i : Nat) (cn : Str) (gs : List Nat) (j : Nat) (own : Bool) (b : Ex)
  | newN (i : Nat) (cn : Str) (gs : List Nat) (j : Nat) (cn1 : Str) (gs1 : List Nat)
inductive Sms where
  | nil | cons (s : Sm) (r : Sms)
end

abbrev L := PySem.sizeLine
/-- a condition's answer that nothing reckons out -/
noncomputable def cd (p : Prop) : Bool := @decide p (Classical.propDecidable p)
@[simp] theorem cd_iff {p : Prop} : cd p = true ↔ p := by unfold cd; exact @decide_eq_true_iff p (Classical.propDecidable p)
noncomputable def mulOk (a b : Int) : Bool := cd (a.natAbs.log2 + b.natAbs.log2 < 1000000)
noncomputable def divOk (b : Int) : Bool := cd (0 < b ∧ b.natAbs.log2 < 9000)
noncomputable def powOk (a n : Int) : Bool := cd (0 ≤ n ∧ (Builtin.Int.intBits a : Int) * n ≤ 2 ^ 27)
def addD : D → D → Option RV
  | .int a, .int b => some (.v (.int (a + b)))
  | .str a, .str b => if a.length + b.length ≤ L then some (.v (.str (a ++ b))) else none
  | .list a, .list b => if a.length + b.length ≤ L then some (.o (a ++ b)) else none
  | .tuple a, .tuple b => if a.length + b.length ≤ L then some (.v (.tuple (a ++ b))) else none
  | _, _ => none
def subD : D → D → Option RV
  | .int a, .int b => some (.v (.int (a - b)))
  | _, _ => none
noncomputable def repOk (n : Nat) (k : Int) : Bool := cd (-(2 ^ 63) ≤ k ∧ k < 2 ^ 63 ∧ n * k.toNat ≤ L)
noncomputable def repOkT (n : Nat) (k : Int) : Bool := cd (0 < n ∧ n ≤ 1000 ∧ 0 ≤ k ∧ k ≤ 1000)
noncomputable def mulD : D → D → Option RV
  | .int a, .int b => if mulOk a b then some (.v (.int (a * b))) else none
  | .list a, .int k => if repOk a.length k then some (.o (List.replicate k.toNat a).flatten) else none
  | .tuple a, .int k => if repOkT a.length k then some (.v (.tuple (List.replicate k.toNat a).flatten)) else none
  | _, _ => none
noncomputable def fdivD : D → D → Option RV
  | .int a, .int b => if divOk b then some (.v (.int (a / b))) else none
  | _, _ => none
def modD : D → D → Option RV
  | .int a, .int b => if decide (0 < b) then some (.v (.int (a % b))) else none
  | _, _ => none
noncomputable def powD : D → D → Option RV
  | .int a, .int n => if powOk a n then some (.v (.int (a ^ n.toNat))) else none
  | _, _ => none
noncomputable def op2 : Op2 → D → D → Option RV
  | .add => addD | .sub => subD | .mul => mulD | .fdiv => fdivD | .mod => modD | .pow => powD

def okD (d : D) : Bool := SeqAt.shaped d
/-- lists of unlike lengths, of anything -/
def lenN : D → D → Option Bool
  | .list a, .list b => if a.length = b.length then none else some false
  | _, _ => none
def eqD : D → D → Option Bool
  | .str a, .str b => some (decide (a = b))
  | d, e => if okD d && okD e then some (d.eqv e) else lenN d e
def ltI (f : Int → Int → Bool) : D → D → Option Bool
  | .int a, .int b => some (f a b)
  | _, _ => none
def inD : D → D → Option Bool
  | .str a, .str b => match a.cps.toList with
    | [c] => some (decide (c ∈ b.cps.toList))
    | _ => none
  | x, .list ys => if okD x && okD (.list ys) then some (ys.any fun z => z.eqv x) else none
  | _, _ => none
def cmpD : Cp → D → D → Option Bool
  | .eq => eqD
  | .ne => fun d e => (eqD d e).map (!·)
  | .lt => ltI fun a b => decide (a < b)
  | .le => ltI fun a b => decide (a ≤ b)
  | .gt => ltI fun a b => decide (b < a)
  | .ge => ltI fun a b => decide (b ≤ a)
  | .inn => inD
  | .nin => fun d e => (inD d e).map (!·)

def isNo : D → Bool
  | .none => true
  | _ => false
def ixOf (n : Nat) (i : Int) : Option Nat :=
  let j := if i < 0 then i + n else i
  if 0 ≤ j ∧ j < n then some j.toNat else none
def ixD : D → D → Option RV
  | .list xs, .int i => ((ixOf xs.length i).bind fun j => xs[j]?).map .v
  | .tuple xs, .int i => ((ixOf xs.length i).bind fun j => xs[j]?).map .v
  | .str z, .int i => if z.length ≤ L then ((ixOf z.cps.toList.length i).bind fun j => z.cps.toList[j]?).map fun c => .v (.str ⟨#[c]⟩) else none
  | _, _ => none
def cutL {α : Type} (xs : List α) (lo hi : Option Int) : List α := (xs.drop (HT.sIx xs.length 0 lo)).take (HT.sIx xs.length xs.length hi - HT.sIx xs.length 0 lo)
/-- xs[lo:hi:st], st not 0 -/
def pickL {α : Type} (xs : List α) (lo hi st : Option Int) : List α := (sliceRange (sliceBounds lo hi st xs.length).1 (sliceBounds lo hi st xs.length).2.1 (sliceBounds lo hi st xs.length).2.2).filterMap fun i => xs[i]?
def slD (d : D) (lo hi : Option Int) : Option RV :=
  match d with
  | .list xs => some (.o (cutL xs lo hi))
  | .tuple xs => some (.v (.tuple (cutL xs lo hi)))
  | .str z => if z.length ≤ L then some (.v (.str (L2.cutS z lo hi))) else none
  | _ => none

def intsOf : List D → Option (List Int)
  | [] => some []
  | .int i :: r => (intsOf r).map (i :: ·)
  | _ :: _ => none
def boolsOf : List D → Option (List Bool)
  | [] => some []
  | .bool i :: r => (boolsOf r).map (i :: ·)
  | _ :: _ => none
def strsOf : List D → Option (List Str)
  | [] => some []
  | .str i :: r => (strsOf r).map (i :: ·)
  | _ :: _ => none
def sortI (ns : List Int) : List Int := ns.mergeSort (fun a b => decide (a ≤ b))
noncomputable def showOk (d : D) : Bool := d.showable && cd (d.shown.length ≤ L) && !d.hasDict && cd (d.depth ≤ 64)
/-- built-ins by plain data -/
noncomputable def biD : Bi → List D → Option RV
  | .len, [.list xs] => some (.v (.int xs.length))
  | .len, [.tuple xs] => some (.v (.int xs.length))
  | .len, [.str z] => if z.length ≤ L then some (.v (.int z.length)) else none
  | .abs, [.int i] => some (.v (.int i.natAbs))
  | .int, [.int i] => some (.v (.int i))
  | .int, [.bool b] => some (.v (.int (if b = true then 1 else 0)))
  | .int, [.str a] => if a.length ≤ 640 then (PySem.intText? a).map fun n => .v (.int n) else none
  | .max, [.int i, .int j] => some (.v (.int (max i j)))
  | .min, [.int i, .int j] => some (.v (.int (min i j)))
  | .max, [.list xs] => (intsOf xs).bind fun ns => ns.max?.map fun m => .v (.int m)
  | .min, [.list xs] => (intsOf xs).bind fun ns => ns.min?.map fun m => .v (.int m)
  | .sum, [.list xs] => (intsOf xs).map fun ns => .v (.int ns.sum)
  | .sorted, [.list xs] => (intsOf xs).map fun ns => .o ((sortI ns).map .int)
  | .list, [.list xs] => some (.o xs)
  | .list, [.tuple xs] => some (.o xs)
  | .tuple, [.list xs] => some (.v (.tuple xs))
  | .tuple, [.tuple xs] => some (.v (.tuple xs))
  | .repr, [d] => if showOk d then some (.v (.str d.shown)) else none
  | .str, [.int i] => if i.natAbs.log2 < 1920 then some (.v (.str (Str.ofString (toString i)))) else none
  | .all, [.list xs] => (boolsOf xs).map fun bs => .v (.bool (bs.all id))
  | .any, [.list xs] => (boolsOf xs).map fun bs => .v (.bool (bs.any id))
  | _, _ => none
/-- {x} of an f-string -/
noncomputable def fmtD : D → Option RV
  | .str y => if y.length ≤ L then some (.v (.str y)) else none
  | .int i => if i.natAbs.log2 < 1920 then some (.v (.str (Str.ofString (toString i)))) else none
  | _ => none
/-- sorted(xs, key=len) -/
def lenD : D → Option Int
  | .list xs => some xs.length
  | .tuple xs => some xs.length
  | _ => none
def lenLe (a b : D) : Bool := decide ((lenD a).getD 0 ≤ (lenD b).getD 0)
def srkD : D → Option RV
  | .list xs => if xs.all (fun d => (lenD d).isSome) = true then some (.o (xs.mergeSort lenLe)) else none
  | _ => none
def isTy : Ty → D → Bool
  | .int, .int _ => true
  | .int, .bool _ => true
  | .bool, .bool _ => true
  | .str, .str _ => true
  | .list, .list _ => true
  | .tuple, .tuple _ => true
  | _, _ => false
def idxOf (ds : List D) (d : D) : Option Nat := ds.findIdx? fun z => z.eqv d
def mtD : Mt → D → List D → Option RV
  | .index, .list ds, [d] => if okD d && okD (.list ds) then (idxOf ds d).map fun (j : Nat) => .v (.int j) else none
  | .count, .list ds, [.int i] => (intsOf ds).map fun ns => .v (.int (ns.count i))
  | .count, .list ds, [.bool b] => if okD (.list ds) then some (.v (.int (ds.countP fun z => z.eqv (.bool b) : Nat))) else none
  | .join, .str a, [.list ds] => (strsOf ds).bind fun ys => if (ys.map (·.length)).sum + ys.length * a.length ≤ 16777216 then some (.v (.str (Txt.join a ys))) else none
  | .split, .str a, [.str b] => if b.length ≠ 0 ∧ a.length + 2 ≤ L then some (.o ((Txt.split a b).map .str)) else none
  | .startswith, .str a, [.str b] => some (.v (.bool (Txt.startswith a b)))
  | .endswith, .str a, [.str b] => some (.v (.bool (Txt.endswith a b)))
  | .partition, .str a, [.str b] => if b.length ≠ 0 ∧ a.length ≤ L then some (.v (.tuple [.str (Txt.partition a b).1, .str (Txt.partition a b).2.1, .str (Txt.partition a b).2.2])) else none
  | _, _, _ => none
/-- what is given, the list behind it -/
noncomputable def muD : Mu → List D → List D → Option (D × List D)
  | .append, xs, [d] => if xs.length < L then some (.none, xs ++ [d]) else none
  | .pop, xs, [] => (xs[xs.length - 1]?).map fun d => (d, xs.dropLast)
  | .popAt, xs, [.int i] => if cd (-(2 ^ 63) ≤ i ∧ i < 2 ^ 63) = true then (ixOf xs.length i).bind fun k => (xs[k]?).map fun d => (d, xs.eraseIdx k) else none
  | .insert, xs, [.int i, d] => if cd (xs.length < L ∧ 0 ≤ i ∧ i < 2 ^ 63) = true then some (.none, xs.take i.toNat ++ [d] ++ xs.drop i.toNat) else none
  | .extend, xs, [.list ys] => if xs.length + ys.length ≤ L then some (.none, xs ++ ys) else none
  | _, _, _ => none
noncomputable def rngOk (i j : Int) : Bool := cd (-(2 ^ 62) ≤ i ∧ i < 2 ^ 62 ∧ -(2 ^ 62) ≤ j ∧ j < 2 ^ 62)
def upto (lo : Int) (n : Nat) : List D := (List.range n).map fun (k : Nat) => .int (lo + k)
def stepN (i j c : Int) : Nat := (Builtin.Range.rangeSize i j c).toNat
noncomputable def stepOk (i j c : Int) : Bool := cd (c ≠ 0 ∧ c.natAbs < 1073741824) && Builtin.Range.small i j c
def steps (lo c : Int) (n : Nat) : List D := (List.range n).map fun (k : Nat) => .int (lo + k * c)
noncomputable def rngD : List D → Option (List D)
  | [.int j] => if rngOk 0 j then some (upto 0 j.toNat) else none
  | [.int i, .int j] => if rngOk i j then some (upto i (j - i).toNat) else none
  | [.int i, .int j, .int c] => if stepOk i j c then some (steps i c (stepN i j c)) else none
  | _ => none

def res (e : En) : RV → Option D
  | .v d => some d
  | .o ds => some (.list ds)
  | .b i => match e[i]? with
    | some (.v d) => some d
    | some (.o ds) => some (.list ds)
    | _ => none
/-- .. also of a foreign list -/
def resF (e : En) : RV → Option D
  | .b i => match e[i]? with
    | some (.v d) => some d
    | some (.o ds) => some (.list ds)
    | some (.f ds) => some (.list ds)
    | _ => none
  | r => res e r
/-- as plain data: a list of one's own is so for good -/
def toV (e : En) : RV → Option (D × En)
  | .v d => some (d, e)
  | .o ds => some (.list ds, e)
  | .b i => match e[i]? with
    | some (.v d) => some (d, e)
    | some (.o ds) => some (.list ds, e.set i (.v (.list ds)))
    | _ => none
def toVs : List RV → En → Option (List D × En)
  | [], e => some ([], e)
  | r :: rs, e => (toV e r).bind fun p => (toVs rs p.2).map fun q => (p.1 :: q.1, q.2)
def ress (e : En) : List RV → Option (List D)
  | [] => some []
  | r :: rs => (res e r).bind fun d => (ress e rs).map (d :: ·)
def ressF (e : En) : List RV → Option (List D)
  | [] => some []
  | r :: rs => (resF e r).bind fun d => (ressF e rs).map (d :: ·)

def R.bd : R → (RV → En → R) → R
  | .st, _ => .st
  | .ok r e, f => f r e
  | .ex x e, _ => .ex x e
def R.bt : R → (RV → En → RT) → RT
  | .st, _ => .st
  | .ok r e, f => f r e
  | .ex x e, _ => .ex x e
def RL.bd : RL → (List RV → En → R) → R
  | .st, _ => .st
  | .ok r e, f => f r e
  | .ex x e, _ => .ex x e
def RI.bd : RI → (List D → Option Nat → En → R) → R
  | .st, _ => .st
  | .ok r l e, f => f r l e
  | .ex x e, _ => .ex x e
def R.bo : R → (RV → En → O) → O
  | .st, _ => .st
  | .ok r e, f => f r e
  | .ex x e, _ => .ex x e
def RL.bo : RL → (List RV → En → O) → O
  | .st, _ => .st
  | .ok r e, f => f r e
  | .ex x e, _ => .ex x e
def RI.bo : RI → (List D → Option Nat → En → O) → O
  | .st, _ => .st
  | .ok r l e, f => f r l e
  | .ex x e, _ => .ex x e
def RT.bo : RT → (Bool → En → O) → O
  | .st, _ => .st
  | .ok r e, f => f r e
  | .ex x e, _ => .ex x e
def RT.bd : RT → (Bool → En → R) → R
  | .st, _ => .st
  | .ok r e, f => f r e
  | .ex x e, _ => .ex x e
def O.bd : O → (En → O) → O
  | .nx e, f => f e
  | o, _ => o
def ofO (e : En) : Option RV → R
  | none => .st
  | some r => .ok r e
def ofB (e : En) : Option Bool → R
  | none => .st
  | some b => .ok (.v (.bool b)) e
/-- a value as a test's answer -/
def asT : R → RT
  | .ok (.v (.bool b)) e => .ok b e
  | .ex x e => .ex x e
  | _ => .st

def wipeE (e : En) : List Nat → En
  | [] => e
  | i :: r => (wipeE e r).set i .no
/-- the slots at is as they were in e1 -/
def backE (e e1 : En) : List Nat → En
  | [] => e
  | i :: r => (backE e e1 r).set i (e1[i]?.getD .no)
/-- plain data to slots one by one -/
def asgs : List Nat → List D → En → Option En
  | [], [], e => some e
  | i :: is, d :: ds, e => asgs is ds (e.set i (.v d))
  | _, _, _ => none
def asgT : Tg → D → En → Option En
  | .n i, d, e => some (e.set i (.v d))
  | .t is, .tuple ds, e => asgs is ds e
  | .t _, _, _ => none

inductive RC where
  | st | ok (ds : List D) (e : En)
/-- a comprehension's turns: tg the target, own its names, f the tests, g the element -/
def lcGo (tg : Tg) (own : List Nat) (f : En → RT) (g : En → R) : List D → En → RC
  | [], e => .ok [] e
  | d :: r, e => match asgT tg d (wipeE e own) with
    | none => .st
    | some e1 => match f e1 with
      | .ok true e2 => match g e2 with
        | .ok x e3 => match toV e3 x with
          | none => .st
          | some (y, e4) => match lcGo tg own f g r e4 with
            | .ok ys e5 => .ok (y :: ys) e5
            | .st => .st
        | _ => .st
      | .ok false e2 => lcGo tg own f g r e2
      | _ => .st

/-- the arguments that are data are so for good -/
def prep : List Md → List RV → En → Option (List RV × En)
  | [], [], e => some ([], e)
  | .v :: ms, r :: rs, e => (toV e r).bind fun p => (prep ms rs p.2).map fun q => (.v p.1 :: q.1, q.2)
  | .m :: ms, r :: rs, e => (prep ms rs e).map fun q => (r :: q.1, q.2)
  | .f :: ms, r :: rs, e => (prep ms rs e).map fun q => (r :: q.1, q.2)
  | .q :: ms, r :: rs, e => (prep ms rs e).map fun q => (r :: q.1, q.2)
  | _, _, _ => none
def avs (e : En) : List Md → List RV → Option (List AV)
  | [], [] => some []
  | .v :: ms, .v d :: rs => (avs e ms rs).map (.v d :: ·)
  | .m :: ms, .o ds :: rs => (avs e ms rs).map (.m ds :: ·)
  | .m :: ms, .b i :: rs => match e[i]? with
    | some (.o ds) => (avs e ms rs).map (.m ds :: ·)
    | _ => none
  | .f :: ms, .b i :: rs => match e[i]? with
    | some (.f ds) => (avs e ms rs).map (.f ds :: ·)
    | _ => none
  | .q :: ms, .b _ :: rs => (avs e ms rs).map (.q :: ·)
  | _, _ => none
/-- the slots that are lent -/
def lent : List Md → List RV → List Nat
  | .m :: ms, .b i :: rs => i :: lent ms rs
  | _ :: ms, _ :: rs => lent ms rs
  | _, _ => []
/-- what was lent comes back -/
def putB : List Md → List RV → List Sl → En → En
  | .m :: ms, .b i :: rs, s :: ss, e => putB ms rs ss (e.set i s)
  | _ :: ms, _ :: rs, _ :: ss, e => putB ms rs ss e
  | _, _, _, e => e
def backR (rs : List RV) (fs : List Sl) : CV → Option RV
  | .v d => some (.v d)
  | .o ds => some (.o ds)
  | .p j => match rs[j]? with
    | some (.b i) => some (.b i)
    | some (.o _) => match fs[j]? with
      | some (.o ds) => some (.o ds)
      | some (.v d) => some (.v d)
      | _ => none
    | _ => none
/-- final states of lent lists are lists or data -/
def finOk : List Md → List Sl → Bool
  | [], [] => true
  | .m :: ms, .o _ :: ss => finOk ms ss
  | .m :: ms, .v _ :: ss => finOk ms ss
  | .m :: _, _ :: _ => false
  | _ :: ms, _ :: ss => finOk ms ss
  | _, _ => false
def callV (Φ : Ph) (f : Nat) (ms : List Md) (rs : List RV) (e : En) : R :=
  match prep ms rs e with
  | none => .st
  | some (rs1, e1) => match avs e1 ms rs1 with
    | none => .st
    | some as => if decide (lent ms rs1).Nodup then
        match Φ f as with
        | .st => .st
        | .rt r fs => if finOk ms fs then ofO (putB ms rs1 fs e1) (backR rs1 fs r) else .st
        | .ex x fs => if finOk ms fs then .ex x (putB ms rs1 fs e1) else .st
      else .st
/-- data without parts; what comes back and holds no part of a list that was only shown -/
def atomD : D → Bool
  | .none => true
  | .bool _ => true
  | .int _ => true
  | .str _ => true
  | _ => false
def flatC : CV → Bool
  | .v (.tuple ds) => ds.all atomD
  | .v d => atomD d
  | .o ds => ds.all atomD
  | .p _ => false
def cvR : CV → RV
  | .v d => .v d
  | .o d => .o d
  | .p j => .b j
/-- a call to which one's own lists are only shown -/
def callB (Φ : Ph) (f : Nat) (ms : List Md) (rs : List RV) (e : En) : R := match ress e rs with
  | none => .st
  | some ds => if decide (ms = List.replicate ds.length .v) then (match Φ f (ds.map .v) with
    | .rt c _ => if flatC c then .ok (cvR c) e else .st
    | _ => .st) else .st
/-- own lists at all these slots -/
def allO (e : En) : List Nat → Bool
  | [] => true
  | i :: r => match e[i]? with
    | some (.o _) => allO e r
    | _ => false
/-- how an object's def is called: 0 f(..), 1 o.f(..), 2 o.f, a property, 3 len(o), 4 x in o, 5 x not in o, 6 o.f(x=..) -/
def qArgs (w : Nat) (rs : List RV) : Option (List RV) := if w = 4 ∨ w = 5 then (match rs with
    | [x, o] => some [o, x]
    | _ => none) else some rs
noncomputable def qFin (w : Nat) (r : R) : R := match w with
  | 0 => r
  | 1 => r
  | 6 => r
  | 2 => match r with
    | .ok r e => .ok r e
    | _ => .st
  | 3 => match r with
    | .ok (.v (.int n)) e => if cd (0 ≤ n ∧ n < 2 ^ 63) = true then .ok (.v (.int n)) e else .st
    | _ => .st
  | 4 => match r with
    | .ok (.v (.bool b)) e => .ok (.v (.bool b)) e
    | _ => .st
  | 5 => match r with
    | .ok (.v (.bool b)) e => .ok (.v (.bool (!b))) e
    | _ => .st
  | _ => .st
/-- a call with keywords: the parameters' values among those that were reckoned -/
def permd (pm : List Nat) (rs : List RV) : Option (List RV) := pm.mapM fun k => rs[k]?
def mtTy : Mt → Ty
  | .index => .list | .count => .list | .join => .str | .split => .str | .startswith => .str | .endswith => .str | .partition => .str

def optI : List RV → Option (Option Int)
  | [] => some none
  | [.v (.int i)] => some (some i)
  | _ => none

def R.bi : R → (RV → En → RI) → RI
  | .st, _ => .st
  | .ok r e, f => f r e
  | .ex x e, _ => .ex x e
def RL.bi : RL → (List RV → En → RI) → RI
  | .st, _ => .st
  | .ok r e, f => f r e
  | .ex x e, _ => .ex x e
/-- what is walked: a list (lent for the while, or for good), a tuple -/
def itOf (tup brw : Bool) (r : RV) (e1 : En) : RI := match brw, r with
  | true, .b i => match e1[i]? with
    | some (.o ds) => if tup then .st else .ok ds (some i) e1
    | _ => .st
  | true, _ => .st
  | false, r => match toV e1 r with
    | some (.list ds, e2) => if tup then .st else .ok ds none e2
    | some (.tuple ds, e2) => if tup then .ok ds none e2 else .st
    | _ => .st
noncomputable def rngOf (rs : List RV) (e1 : En) : RI := match (ress e1 rs).bind rngD with
  | some ds => .ok ds none e1
  | none => .st
def enum (ds : List D) : List D := ds.zipIdx.map fun p => .tuple [.int p.2, p.1]
def enuOf (brw : Bool) (r : RV) (e1 : En) : RI := match brw, r with
  | true, .b i => match e1[i]? with
    | some (.o ds) => .ok (enum ds) (some i) e1
    | _ => .st
  | true, _ => .st
  | false, r => match toV e1 r with
    | some (.list ds, e2) => .ok (enum ds) none e2
    | _ => .st
def zipD (ds es : List D) : List D := (ds.zip es).map fun p => .tuple [p.1, p.2]
def zipOf (r r' : RV) (e2 : En) : RI := match toVs [r, r'] e2 with
  | some ([.list ds, .list es], e3) => .ok (zipD ds es) none e3
  | _ => .st

def rvtOf (r : RV) (e1 : En) : RI := match toV e1 r with
  | some (.tuple ds, e2) => .ok ds.reverse none e2
  | _ => .st
def chsOf (r : RV) (e1 : En) : RI := match res e1 r with
  | some (.str z) => .ok (z.cps.toList.map fun c => .str ⟨#[c]⟩) none e1
  | _ => .st
def slpD (d : D) (lo hi st : Option Int) : Option RV := match d with
  | .list xs => if decide (st ≠ some 0) then some (.o (pickL xs lo hi st)) else none
  | _ => none
def isbD (ng : Bool) : D → D → Option Bool
  | .bool a, .bool b => some (if ng = true then !decide (a = b) else decide (a = b))
  | _, _ => none

/-- a comprehension of two fors -/
def lc2Go (tg : Tg) (own : List Nat) (fI : En → RI) (tg1 : Tg) (own1 : List Nat) (g : En → R) : List D → En → RC
  | [], e => .ok [] e
  | d :: r, e => match asgT tg d (wipeE e own) with
    | none => .st
    | some e1 => match fI e1 with
      | .ok ds1 none e2 => match lcGo tg1 own1 (fun e => .ok true e) g ds1 e2 with
        | .ok ys e3 => match lc2Go tg own fI tg1 own1 g r e3 with
          | .ok zs e4 => .ok (ys ++ zs) e4
          | .st => .st
        | .st => .st
      | _ => .st
section
variable (Φ : Ph) (ms : Nat → List Md)
mutual
noncomputable def evE : Ex → En → R
  | .int i, e => .ok (.v (.int i)) e
  | .bl b, e => .ok (.v (.bool b)) e
  | .non, e => .ok (.v .none) e
  | .str s, e => .ok (.v (.str s)) e
  | .var i, e => match e[i]? with
    | some (.v d) => .ok (.v d) e
    | some (.o _) => .ok (.b i) e
    | some (.f _) => .ok (.b i) e
    | _ => .st
  | .con _ d, e => .ok (.v d) e
  | .op o a b, e => (evE a e).bd fun x e1 => (evE b e1).bd fun y e2 => match res e2 x, res e2 y with
    | some d, some d' => ofO e2 (op2 o d d')
    | _, _ => .st
  | .neg a, e => (evE a e).bd fun x e1 => match res e1 x with
    | some (.int i) => .ok (.v (.int (-i))) e1
    | _ => .st
  | .cmp o a b, e => (evE a e).bd fun x e1 => (evE b e1).bd fun y e2 => match res e2 x, res e2 y with
    | some d, some d' => ofB e2 (cmpD o d d')
    | _, _ => .st
  | .isn a, e => (evE a e).bd fun x e1 => match res e1 x with
    | some d => .ok (.v (.bool ((fun b => b) (isNo d)))) e1
    | none => .st
  | .nisn a, e => (evE a e).bd fun x e1 => match res e1 x with
    | some d => .ok (.v (.bool (not (isNo d)))) e1
    | none => .st
  | .chn a o b o2 c, e => (evE a e).bd fun x e1 => (evE b e1).bd fun y e2 => match res e2 x, res e2 y with
    | some d, some d' => match cmpD o d d' with
      | some true => (evE c e2).bd fun z e3 => match res e3 y, res e3 z with
        | some f, some f' => ofB e3 (cmpD o2 f f')
        | _, _ => .st
      | some false => .ok (.v (.bool false)) e2
      | none => .st
    | _, _ => .st
  | .bop c es, e => evB c es e
  | .nt a, e => (asT (evE a e)).bd fun b e1 => .ok (.v (.bool (!b))) e1
  | .ite c a b, e => (asT (evE c e)).bd fun t e1 => if t = true then evE a e1 else evE b e1
  | .lst es, e => (evL es e).bd fun rs e1 => match toVs rs e1 with
    | some (ds, e2) => if ds.length ≤ L then .ok (.o ds) e2 else .st
    | none => .st
  | .tup es, e => (evL es e).bd fun rs e1 => match toVs rs e1 with
    | some (ds, e2) => if ds.length ≤ L then .ok (.v (.tuple ds)) e2 else .st
    | none => .st
  | .ix a i, e => (evE a e).bd fun x e1 => (evE i e1).bd fun y e2 => match resF e2 x, res e2 y with
    | some d, some d' => ofO e2 (ixD d d')
    | _, _ => .st
  | .sl a lo hi, e => (evE a e).bd fun x e1 => (evL lo e1).bd fun l e2 => match optI l with
    | none => .st
    | some l' => (evL hi e2).bd fun h e3 => match optI h with
      | none => .st
      | some h' => match res e3 x with
        | some d => ofO e3 (slD d l' h')
        | none => .st
  | .bi f es, e => (evL es e).bd fun rs e1 => match ressF e1 rs with
    | some ds => ofO e1 (biD f ds)
    | none => .st
  | .lrg es, e => (evL es e).bd fun rs e1 => match (ress e1 rs).bind rngD with
    | some ds => if ds.length ≤ L then .ok (.o ds) e1 else .st
    | none => .st
  | .isi a t, e => (evE a e).bd fun x e1 => match res e1 x with
    | some d => .ok (.v (.bool (isTy t d))) e1
    | none => .st
  | .mth m a es, e => (evE a e).bd fun x e1 => match res e1 x with
    | none => .st
    | some d0 => if isTy (mtTy m) d0 then (evL es e1).bd fun rs e2 => match res e2 x, ress e2 rs with
      | some d, some ds => ofO e2 (mtD m d ds)
      | _, _ => .st
      else .st
  | .mut m a es, e => (evE a e).bd fun x e1 => match x with
    | .b i => match e1[i]? with
      | some (.o _) => (evL es e1).bd fun rs e2 => match toVs rs e2 with
        | some (ds, e3) => match e3[i]? with
          | some (.o xs) => match muD m xs ds with
            | some (d, xs') => .ok (.v d) (e3.set i (.o xs'))
            | none => .st
          | _ => .st
        | none => .st
      | _ => .st
    | _ => .st
  | .call f es, e => (evL es e).bd fun rs e1 => callV Φ f (ms f) rs e1
  | .callK f es kes pm, e => (evL es e).bd fun rs e1 => (evL kes e1).bd fun rs' e2 => match permd pm (rs ++ rs') with
    | some rs2 => callV Φ f (ms f) rs2 e2
    | none => .st
  | .lc s tg own ts elt, e => (evI s e).bd fun ds lk e1 => match lcGo tg (own ++ lk.toList) (fun e => evTs ts e) (fun e => evE elt e) ds e1 with
    | .st => .st
    | .ok ys e2 => if ys.length ≤ L then .ok (.o ys) (backE e2 e1 (own ++ lk.toList)) else .st
  | .callB f es, e => (evL es e).bd fun rs e1 => callB Φ f (ms f) rs e1
  | .callKB f es kes pm, e => (evL es e).bd fun rs e1 => (evL kes e1).bd fun rs' e2 => match permd pm (rs ++ rs') with
    | some rs2 => callB Φ f (ms f) rs2 e2
    | none => .st
  | .trg es, e => (evL es e).bd fun rs e1 => match (ress e1 rs).bind rngD with
    | some ds => if ds.length ≤ L then .ok (.v (.tuple ds)) e1 else .st
    | none => .st
  | .slp a lo hi st, e => (evE a e).bd fun x e1 => (evL lo e1).bd fun l e2 => match optI l with
    | none => .st
    | some l' => (evL hi e2).bd fun h e3 => match optI h with
      | none => .st
      | some h' => (evL st e3).bd fun s e4 => match optI s with
        | none => .st
        | some s' => match res e4 x with
          | some d => ofO e4 (slpD d l' h' s')
          | none => .st
  | .isb ng a b, e => (evE a e).bd fun x e1 => (evE b e1).bd fun y e2 => match res e2 x, res e2 y with
    | some d, some d' => ofB e2 (isbD ng d d')
    | _, _ => .st
  | .srk a, e => (evE a e).bd fun x e1 => match res e1 x with
    | some d => ofO e1 (srkD d)
    | none => .st
  | .lc2 s tg own s1 tg1 own1 elt, e => (evI s e).bd fun ds lk e1 => match lk with
    | some _ => .st
    | none => match lc2Go tg own (fun e => evI s1 e) tg1 own1 (fun e => evE elt e) ds e1 with
      | .st => .st
      | .ok ys e2 => if ys.length ≤ L then .ok (.o ys) (backE e2 e1 own) else .st
  | .kdi ng _ K a, e => (evE a e).bd fun x e1 => match x with
    | .v (.str z) => .ok (.v (.bool (ng != (K.lookup z).isSome))) e1
    | _ => .st
  | .kdx _ K a, e => (evE a e).bd fun x e1 => match x with
    | .v (.str z) => match K.lookup z with
      | some d => .ok (.v d) e1
      | none => .st
    | _ => .st
  | .fmt a, e => (evE a e).bd fun x e1 => match res e1 x with
    | some d => ofO e1 (fmtD d)
    | none => .st
  | .jn es, e => evJ es e Str.empty
  | .dc0, e => .ok (.v (.dict [])) e
  | .callI fns a es, e => (evE a e).bd fun x e1 => match res e1 x with
    | some (.int i) => match (ixOf fns.length i).bind fun j => fns[j]? with
      | some fn => (evL es e1).bd fun rs e2 => callV Φ fn (ms fn) rs e2
      | none => .st
    | _ => .st
  | .isx i ks _, e => match e[i]? with
    | some (.x x) => .ok (.v (.bool (ks.any fun k => subX x.c k))) e
    | some (.v d) => if isNo d = true then .ok (.v (.bool false)) e else .st
    | _ => .st
  | .xno ng i, e => match e[i]? with
    | some (.x _) => .ok (.v (.bool ng)) e
    | some (.v d) => .ok (.v (.bool (ng != isNo d))) e
    | _ => .st
  | .xfl i _ cs, e => match e[i]? with
    | some (.x x) => if x.c ∈ cs then (match x.f with
      | some d => .ok (.v d) e
      | none => .st) else .st
    | _ => .st
  | .atr j _ _, e => match e[j]? with
    | some (.v d) => .ok (.v d) e
    | some (.o _) => .ok (.b j) e
    | _ => .st
  | .obj i j, e => match e[j]? with
    | some (.v _) => .ok (.b i) e
    | some (.o _) => .ok (.b i) e
    | _ => .st
  | .callQ w f es gs, e => (evL es e).bd fun rs e1 => if allO e1 gs = true then (match qArgs w rs with
    | some rs1 => qFin w (callV Φ f (ms f) (rs1 ++ gs.map .b) e1)
    | none => .st) else .st
noncomputable def evL : Exs → En → RL
  | .nil, e => .ok [] e
  | .cons a r, e => match evE a e with
    | .st => .st
    | .ex x e1 => .ex x e1
    | .ok x e1 => match evL r e1 with
      | .st => .st
      | .ex x e2 => .ex x e2
      | .ok xs e2 => .ok (x :: xs) e2
/-- texts one behind the other -/
noncomputable def evJ : Exs → En → Str → R
  | .nil, e, acc => .ok (.v (.str acc)) e
  | .cons a r, e, acc => (evE a e).bd fun x e1 => match x with
    | .v (.str y) => if (acc ++ y).length ≤ L then evJ r e1 (acc ++ y) else .st
    | _ => .st
/-- a and b and ..; a or b or .. -/
noncomputable def evB (c : Bool) : Exs → En → R
  | .nil, _ => .st
  | .cons a .nil, e => (asT (evE a e)).bd fun b e1 => .ok (.v (.bool b)) e1
  | .cons a (.cons b r), e => (asT (evE a e)).bd fun t e1 => if t = c then evB c (.cons b r) e1 else .ok (.v (.bool t)) e1
/-- the tests of a comprehension -/
noncomputable def evTs : Exs → En → RT
  | .nil, e => .ok true e
  | .cons a r, e => match asT (evE a e) with
    | .ok true e1 => evTs r e1
    | .ok false e1 => .ok false e1
    | .ex x e1 => .ex x e1
    | .st => .st
noncomputable def evI : Src → En → RI
  | .it tup brw a, e => (evE a e).bi fun r e1 => itOf tup brw r e1
  | .rng es, e => (evL es e).bi fun rs e1 => rngOf rs e1
  | .enu brw a, e => (evE a e).bi fun r e1 => enuOf brw r e1
  | .zip a b, e => (evE a e).bi fun r e1 => (evE b e1).bi fun r' e2 => zipOf r r' e2
  | .rvt a, e => (evE a e).bi fun r e1 => rvtOf r e1
  | .chs a, e => (evE a e).bi fun r e1 => chsOf r e1
end

def augI (o : Op2) (x y : Int) : Option Int := match o with
  | .add => some (x + y)
  | .sub => some (x - y)
  | _ => none
def isB : RV → Nat → Bool
  | .b k, i => decide (k = i)
  | _, _ => false
/-- a result to a slot -/
def put (i : Nat) (own : Bool) (r : RV) (e : En) : Option En :=
  match own, r with
  | true, .o ds => some (e.set i (.o ds))
  | _, r => (toV e r).map fun p => p.2.set i (.v p.1)

/-- results that no longer hang on slots -/
def solid : List RV → En → Option (List RV × En)
  | [], e => some ([], e)
  | .b i :: rs, e => (toV e (.b i)).bind fun p => (solid rs p.2).map fun q => (.v p.1 :: q.1, q.2)
  | .v d :: rs, e => (solid rs e).map fun q => (.v d :: q.1, q.2)
  | .o ds :: rs, e => (solid rs e).map fun q => (.o ds :: q.1, q.2)
def puts : List (Nat × Bool) → List RV → En → Option En
  | [], [], e => some e
  | t :: ts, r :: rs, e => (put t.1 t.2 r e).bind fun e1 => puts ts rs e1
  | _, _, _ => none
def isMe : Hx → Bool
  | .me => true
  | _ => false
/-- the slots are there -/
def newOk (e : En) (i : Nat) (gs : List Nat) : Bool := decide (i < e.length) && gs.all fun g => decide (g < e.length)
/-- empty lists to slots -/
def setOs : List Nat → En → En
  | [], e => e
  | i :: is, e => setOs is (e.set i (.o []))
/-- what an except suite reckons -/
noncomputable def evH (x : Xn) (e : En) : Hx → Option D
  | .int i => some (.int i)
  | .str s => some (.str s)
  | .non => some .none
  | .bl b => some (.bool b)
  | .fld _ => x.f
  | .isC k => some (.bool (subX x.c k))
  | .nt a => match evH x e a with
    | some (.bool b) => some (.bool (!b))
    | _ => none
  | .bop c a b => match evH x e a with
    | some (.bool t) => if t = c then (match evH x e b with
      | some (.bool u) => some (.bool u)
      | _ => none) else some (.bool t)
    | _ => none
  | .ite c a b => match evH x e c with
    | some (.bool t) => if t = true then evH x e a else evH x e b
    | _ => none
  | .tup2 a b => match evH x e a, evH x e b with
    | some d, some d' => some (.tuple [d, d'])
    | _, _ => none
  | .veq i k => match e[i]? with
    | some (.v (.int j)) => some (.bool (decide (j = k)))
    | _ => none
  | .cat s _ => match x.f with
    | some (.int j) => if j.natAbs.log2 < 1920 ∧ s.length + (Str.ofString (toString j)).length ≤ L then some (.str (s ++ Str.ofString (toString j))) else none
    | _ => none
  | .ng i => some (.int (-i))
  | .me => none
/-- the slot of a clause's name is forgotten -/
def offN (n : Option Nat) (e : En) : En := match n with
  | some i => e.set i .no
  | none => e
def okN (n : Option Nat) (e : En) : Bool := match n with
  | some i => decide (i < e.length)
  | none => true
/-- the except clauses, one behind the other -/
noncomputable def hdGo (x : Xn) : List Hd → En → O
  | [], e => .ex x e
  | h :: r, e => if subX x.c h.c = true then (if okN h.n e = true then (if isMe h.e = true then .nx ((offN h.n e).set h.i (.x x)) else match evH x (offN h.n e) h.e with
    | some d => .nx ((offN h.n e).set h.i (.v d))
    | none => .st) else .st) else hdGo x r e
def forGo (tg : Tg) (f : En → O) : List D → En → O
  | [], e => .nx e
  | d :: r, e => match asgT tg d e with
    | none => .st
    | some e1 => match f e1 with
      | .nx e2 => forGo tg f r e2
      | .ct e2 => forGo tg f r e2
      | .bk e2 => .nx e2
      | o => o
def unlockO (e1 : En) (T : List Nat) : O → O
  | .st => .st
  | .nx e => .nx (backE e e1 T)
  | .rt r e => .rt r (backE e e1 T)
  | .bk e => .bk (backE e e1 T)
  | .ct e => .ct (backE e e1 T)
  | .ex x e => .ex x (backE e e1 T)
def whlN (c : En → RT) (f : En → O) : Nat → En → O
  | 0, _ => .st
  | n + 1, e => match c e with
    | .st => .st
    | .ex x e1 => .ex x e1
    | .ok false e1 => .nx e1
    | .ok true e1 => match f e1 with
      | .nx e2 => whlN c f n e2
      | .ct e2 => whlN c f n e2
      | .bk e2 => .nx e2
      | o => o
open Classical in
noncomputable def whl (c : En → RT) (f : En → O) (e : En) : O :=
  if h : ∃ n, whlN c f n e ≠ .st then whlN c f (Classical.choose h) e else .st

mutual
noncomputable def exS : Sm → En → O
  | .pass, e => .nx e
  | .ex a, e => (evE Φ ms a e).bo fun _ e1 => .nx e1
  | .asg i own a, e => (evE Φ ms a e).bo fun r e1 => match put i own r e1 with
    | some e2 => .nx e2
    | none => .st
  | .par i oi j oj a b, e => (evE Φ ms a e).bo fun r e1 => (evE Φ ms b e1).bo fun r' e2 => match (put i oi r e2).bind (put j oj r') with
    | some e3 => if i = j ∨ isB r' i = true then .st else .nx e3
    | none => .st
  | .unp is a, e => (evE Φ ms a e).bo fun r e1 => match toV e1 r with
    | some (.tuple ds, e2) => match asgs is ds e2 with
      | some e3 => .nx e3
      | none => .st
    | _ => .st
  | .six a k b, e => (evE Φ ms b e).bo fun r e1 => (evE Φ ms a e1).bo fun x e2 => (evE Φ ms k e2).bo fun y e3 => match toV e3 r with
    | none => .st
    | some (d, e4) => match x, res e4 y with
      | .b i, some (.int n) => match e4[i]? with
        | some (.o ds) => match ixOf ds.length n with
          | some m => .nx (e4.set i (.o (ds.set m d)))
          | none => .st
        | _ => .st
      | _, _ => .st
  | .aug i o b, e => match e[i]? with
    | some (.v d) => (evE Φ ms b e).bo fun r e1 => match d, res e1 r with
      | .int x, some (.int y) => match augI o x y with
        | some z => .nx (e1.set i (.v (.int z)))
        | none => .st
      | _, _ => .st
    | _ => .st
  | .augs a k o b, e => (evE Φ ms a e).bo fun x e1 => (evE Φ ms k e1).bo fun y e2 => match x, res e2 y with
    | .b i, some (.int n) => match e2[i]? with
      | some (.o ds) => match (ixOf ds.length n).bind fun j => ds[j]? with
        | some (.int u) => (evE Φ ms b e2).bo fun r e3 => match res e3 r, e3[i]? with
          | some (.int w), some (.o ds') => match ixOf ds'.length n with
            | some j => match augI o u w with
              | some z => .nx (e3.set i (.o (ds'.set j (.int z))))
              | none => .st
            | none => .st
          | _, _ => .st
        | _ => .st
      | _ => .st
    | _, _ => .st
  | .ite c a b, e => (asT (evE Φ ms c e)).bo fun t e1 => if t = true then exSs a e1 else exSs b e1
  | .whl c b, e => whl (fun e => asT (evE Φ ms c e)) (fun e => exSs b e) e
  | .for s tg b, e => (evI Φ ms s e).bo fun ds lk e1 => unlockO e1 lk.toList (forGo tg (fun e => exSs b e) ds (wipeE e1 lk.toList))
  | .ret a, e => (evE Φ ms a e).bo fun r e1 => .rt r e1
  | .retN, e => .rt (.v .none) e
  | .brk, e => .bk e
  | .cnt, e => .ct e
  | .never, _ => .st
  | .raise c es, e => (evL Φ ms es e).bo fun rs e1 => match toVs rs e1 with
    | some ([], e2) => .ex ⟨c, none⟩ e2
    | some ([d], e2) => .ex ⟨c, some d⟩ e2
    | _ => .st
  | .mas ts es, e => (evL Φ ms es e).bo fun rs e1 => match (solid rs e1).bind fun p => puts ts p.1 p.2 with
    | some e2 => .nx e2
    | none => .st
  | .try b hs, e => match exSs b e with
    | .ex x e1 => hdGo x hs e1
    | o => o
  | .newQ i _ gs, e => if newOk e i gs = true then .nx (setOs gs (e.set i .no)) else .st
  | .newE i _ gs j own b, e => (evE Φ ms b e).bo fun r e1 => match put j own r e1 with
    | some e2 => if newOk e2 i gs = true then .nx (setOs gs (e2.set i .no)) else .st
    | none => .st
  | .newN i _ gs j _ gs1, e => if newOk e i gs && newOk e j gs1 then .nx (setOs gs1 ((setOs gs (e.set i .no)).set j .no)) else .st
noncomputable def exSs : Sms → En → O
  | .nil, e => .nx e
  | .cons s r, e => (exS s e).bd fun e1 => exSs r e1
end
end

structure Df where
  md : List Md
  ns : Nat
  body : Sms
def inits : List Md → List AV → Option En
  | [], [] => some []
  | .v :: ms, .v d :: r => (inits ms r).map (.v d :: ·)
  | .m :: ms, .m ds :: r => (inits ms r).map (.o ds :: ·)
  | .f :: ms, .f ds :: r => (inits ms r).map (.f ds :: ·)
  | .q :: ms, .q :: r => (inits ms r).map (.no :: ·)
  | _, _ => none
def outR (ms : List Md) (e : En) : RV → Option CV
  | .v d => some (.v d)
  | .o ds => some (.o ds)
  | .b i => if ms[i]? = some .m then some (.p i) else match e[i]? with
    | some (.o ds) => some (.o ds)
    | some (.v d) => some (.v d)
    | _ => none
/-- what came of the lent lists -/
def fins : List Md → En → List Sl
  | .m :: ms, s :: e => s :: fins ms e
  | _ :: ms, _ :: e => .no :: fins ms e
  | _, _ => []
/-- the lists that were lent are lists still -/
def finL : List Md → En → Bool
  | .m :: ms, .o _ :: e => finL ms e
  | .m :: ms, .v (.list _) :: e => finL ms e
  | .m :: _, _ => false
  | _ :: ms, _ :: e => finL ms e
  | _, _ => true
/-- how a def's body ends -/
def endR (md : List Md) : O → CO
  | .nx e1 => if finL md e1 then .rt (.v .none) (fins md e1) else .st
  | .rt r e1 => if finL md e1 then (match outR md e1 r with
    | some c => .rt c (fins md e1)
    | none => .st) else .st
  | .ex x e1 => if finL md e1 then .ex x (fins md e1) else .st
  | _ => .st
noncomputable def runDf (Φ : Ph) (ms : Nat → List Md) (d : Df) (as : List AV) : CO :=
  match inits d.md as with
  | none => .st
  | some e => endR d.md (exSs Φ ms d.body (e ++ List.replicate (d.ns - d.md.length) .no))
/-- the defs of a table, at most n deep -/
noncomputable def run (T : Nat → Option Df) (ms : Nat → List Md) : Nat → Ph
  | 0, _, _ => .st
  | n + 1, f, as => match T f with
    | none => .st
    | some d => runDf (run T ms n) ms d as
end Vc
end
section
set_option Elab.async false
set_option linter.all false
namespace Vc
open PySem PySem.Spec L2

abbrev Fg := PySem.W.Frag
def Sub (S T : Hp) : Prop := ∀ a o, S a = some o → T a = some o
theorem Sub.rfl' {S : Hp} : Sub S S := fun _ _ h => h
theorem Sub.tr {S T U : Hp} (a : Sub S T) (b : Sub T U) : Sub S U := fun _ _ h => b _ _ (a _ _ h)
theorem Sub.non {S T : Hp} {a : Addr} (s : Sub S T) (h : T a = none) : S a = none := by
  cases e : S a with
  | none => rfl
  | some o => rw [s a o e] at h; cases h
theorem Sub.laid {S : Hp} {a : Addr} {o : HO} (h : S a = none) : Sub S (upd S a o) := fun b u e => by
  rw [upd_ne (ne_of_none e h)]; exact e
theorem Sub.rd {S T : Hp} {a : Addr} {o : HO} (s : Sub S T) (h : Rd S a o) : Rd T a o := by
  rcases h with h | ⟨ob, h⟩
  · exact .inl (s _ _ h)
  · exact .inr ⟨ob, s _ _ h⟩
theorem Sub.sqT {K : Fg} {S T : Hp} {a : Addr} {xs : List V} (s : Sub S T) (h : SqT K S a xs) : SqT K T a xs := by
  rcases h with h | h
  · exact .inl (s.rd h)
  · exact .inr h
theorem Sub.sqL {K : Fg} {S T : Hp} {a : Addr} {xs : List V} (s : Sub S T) (h : SqL K S a xs) : SqL K T a xs := by
  rcases h with h | h
  · exact .inl (s.rd h)
  · exact .inr h
theorem sqL_of {K : Fg} {S : Hp} {a : Addr} {xs : List V} (h : S a = some (.lst xs)) : SqL K S a xs := .inl (.inl h)
theorem sqT_of {K : Fg} {S : Hp} {a : Addr} {xs : List V} (h : S a = some (.tup xs)) : SqT K S a xs := .inl (.inl h)

mutual
inductive Rp (K : Fg) (S : Hp) : V → D → Prop
  | non : Rp K S .non .none
  | bl (b : Bool) : Rp K S (.bl b) (.bool b)
  | int (i : Int) : Rp K S (.int i) (.int i)
  | str (x : Str) : Rp K S (.str x) (.str x)
  | lst {a : Addr} {xs : List V} {ds : List D} : S a = some (.lst xs) → RpA K S xs ds → Rp K S (.ref a) (.list ds)
  | tup {a : Addr} {xs : List V} {ds : List D} : SqT K S a xs → RpA K S xs ds → Rp K S (.ref a) (.tuple ds)
  | dct {a : Addr} {kvs : List (Key × V)} {ps : List (D × D)} : S a = some (.dK kvs) → Rp K S (.ref a) (.dict ps)
inductive RpA (K : Fg) (S : Hp) : List V → List D → Prop
  | nil : RpA K S [] []
  | cons {v : V} {vs : List V} {d : D} {ds : List D} : Rp K S v d → RpA K S vs ds → RpA K S (v :: vs) (d :: ds)
end
section
variable {K : Fg} {S T H : Hp}
mutual
theorem Rp.mono (s : Sub S T) : ∀ {x : V} {d : D}, Rp K S x d → Rp K T x d
  | _, _, .non => .non
  | _, _, .bl b => .bl b
  | _, _, .int i => .int i
  | _, _, .str x => .str x
  | _, _, .lst h r => .lst (s _ _ h) (RpA.mono s r)
  | _, _, .tup h r => .tup (s.sqT h) (RpA.mono s r)
  | _, _, .dct h => .dct (s _ _ h)
theorem RpA.mono (s : Sub S T) : ∀ {x : List V} {d : List D}, RpA K S x d → RpA K T x d
  | _, _, .nil => .nil
  | _, _, .cons a r => .cons (Rp.mono s a) (RpA.mono s r)
end
mutual
theorem Rp.dp : ∀ {x : V} {d : D}, d.hasDict = false → Rp K S x d → Dp K S x d
  | _, _, _, .non => .non
  | _, _, _, .bl b => .bl b
  | _, _, _, .int i => .int i
  | _, _, _, .str x => .str x
  | _, _, q, .lst h r => .lst (sqL_of h) (RpA.dp (by simpa [PyData.hasDict] using q) r)
  | _, _, q, .tup h r => .tup h (RpA.dp (by simpa [PyData.hasDict] using q) r)
  | _, _, q, .dct h => by simp [PyData.hasDict] at q
theorem RpA.dp : ∀ {x : List V} {d : List D}, PyData.hasDictAll d = false → RpA K S x d → DpAll K S x d
  | _, _, _, .nil => .nil
  | _, _, q, .cons a r => .cons (Rp.dp (by simp [PyData.hasDictAll] at q; exact q.1) a) (RpA.dp (by simp [PyData.hasDictAll] at q; exact q.2) r)
end
theorem RpA.length : ∀ {xs : List V} {ds : List D}, RpA K S xs ds → xs.length = ds.length
  | _, _, .nil => rfl
  | _, _, .cons _ r => congrArg (· + 1) (RpA.length r)
theorem RpA.append : ∀ {xs ys : List V} {ds es : List D}, RpA K S xs ds → RpA K S ys es → RpA K S (xs ++ ys) (ds ++ es)
  | _, _, _, _, .nil, s => s
  | _, _, _, _, .cons a r, s => .cons a (RpA.append r s)
theorem RpA.get : ∀ {xs : List V} {ds : List D} {j : Nat} {d : D}, RpA K S xs ds → ds[j]? = some d → ∃ x, xs[j]? = some x ∧ Rp K S x d
  | _, _, _, _, .nil, e => by simp at e
  | _, _, 0, _, .cons a _, e => by simp at e; subst e; exact ⟨_, rfl, a⟩
  | _, _, j + 1, _, .cons _ r, e => by
    obtain ⟨x, h1, h2⟩ := RpA.get (j := j) r (by simpa using e)
    exact ⟨x, by simpa using h1, h2⟩
theorem RpA.getV : ∀ {xs : List V} {ds : List D} {j : Nat} {x : V}, RpA K S xs ds → xs[j]? = some x → ∃ d, ds[j]? = some d ∧ Rp K S x d
  | _, _, _, _, .nil, e => by simp at e
  | _, _, 0, _, .cons a _, e => by simp at e; subst e; exact ⟨_, rfl, a⟩
  | _, _, j + 1, _, .cons _ r, e => by
    obtain ⟨x, h1, h2⟩ := RpA.getV (j := j) r (by simpa using e)
    exact ⟨x, by simpa using h1, h2⟩
theorem RpA.take : ∀ {xs : List V} {ds : List D} (n : Nat), RpA K S xs ds → RpA K S (xs.take n) (ds.take n)
  | _, _, 0, _ => .nil
  | _, _, _ + 1, .nil => .nil
  | _, _, n + 1, .cons a r => .cons a (RpA.take n r)
theorem RpA.drop : ∀ {xs : List V} {ds : List D} (n : Nat), RpA K S xs ds → RpA K S (xs.drop n) (ds.drop n)
  | _, _, 0, r => r
  | _, _, _ + 1, .nil => .nil
  | _, _, n + 1, .cons _ r => RpA.drop n r
theorem RpA.set {x : V} {d : D} (q : Rp K S x d) : ∀ {xs : List V} {ds : List D} (n : Nat), RpA K S xs ds → RpA K S (xs.set n x) (ds.set n d)
  | _, _, _, .nil => .nil
  | _, _, 0, .cons _ r => .cons q r
  | _, _, n + 1, .cons a r => .cons a (RpA.set q n r)
theorem RpA.eraseIdx : ∀ {xs : List V} {ds : List D} (n : Nat), RpA K S xs ds → RpA K S (xs.eraseIdx n) (ds.eraseIdx n)
  | _, _, _, .nil => .nil
  | _, _, 0, .cons _ r => r
  | _, _, n + 1, .cons a r => .cons a (RpA.eraseIdx n r)
theorem RpA.dropLast : ∀ {xs : List V} {ds : List D}, RpA K S xs ds → RpA K S xs.dropLast ds.dropLast
  | _, _, .nil => .nil
  | _, _, .cons _ .nil => .nil
  | _, _, .cons a (.cons b r) => .cons a (RpA.dropLast (.cons b r))
theorem RpA.flatrep {xs : List V} {ds : List D} (r : RpA K S xs ds) : ∀ n : Nat, RpA K S (List.replicate n xs).flatten (List.replicate n ds).flatten
  | 0 => .nil
  | n + 1 => by
    rw [List.replicate_succ, List.replicate_succ, List.flatten_cons, List.flatten_cons]
    exact r.append (RpA.flatrep r n)
theorem RpA.ints : ∀ {xs : List V} {ds : List D} {ns : List Int}, RpA K S xs ds → intsOf ds = some ns → xs = ns.map V.int
  | _, _, _, .nil, e => by simp [intsOf] at e; subst e; rfl
  | _, _, _, .cons a r, e => by
    cases a <;> simp [intsOf] at e
    obtain ⟨m, h1, h2⟩ := e
    subst h2
    rw [RpA.ints r h1]; rfl
theorem RpA.bools : ∀ {xs : List V} {ds : List D} {ns : List Bool}, RpA K S xs ds → boolsOf ds = some ns → xs = ns.map V.bl
  | _, _, _, .nil, e => by simp [boolsOf] at e; subst e; rfl
  | _, _, _, .cons a r, e => by
    cases a <;> simp [boolsOf] at e
    obtain ⟨m, h1, h2⟩ := e
    subst h2
    rw [RpA.bools r h1]; rfl
theorem RpA.strs : ∀ {xs : List V} {ds : List D} {ns : List Str}, RpA K S xs ds → strsOf ds = some ns → xs = ns.map V.str
  | _, _, _, .nil, e => by simp [strsOf] at e; subst e; rfl
  | _, _, _, .cons a r, e => by
    cases a <;> simp [strsOf] at e
    obtain ⟨m, h1, h2⟩ := e
    subst h2
    rw [RpA.strs r h1]; rfl
theorem rpA_ints : ∀ ns : List Int, RpA K S (ns.map V.int) (ns.map .int)
  | [] => .nil
  | n :: r => .cons (.int n) (rpA_ints r)
theorem rpA_strs : ∀ ns : List Str, RpA K S (ns.map V.str) (ns.map .str)
  | [] => .nil
  | n :: r => .cons (.str n) (rpA_strs r)
end

/-- how an error lies -/
class XrC where
  xr : Hp → Hp → Xn → Value → Option Addr → Prop
  mono : ∀ {S H S' H' : Hp} {x : Xn} {c : Value} {d : Option Addr}, Sub S S' → (∀ b fs, H b = some (.xd fs) → H' b = some (.xd fs)) → xr S H x c d → xr S' H' x c d
/-- an error's object -/
def exK (a : Addr) (cls : Value) (d : Option Addr) : HO := .ext fun h => ∃ (oe : Obj) (vs : Array Value), h.get? a = some oe ∧ Zc cls d oe ∧ oe.data = .fields vs
def XcAt [XrC] (S H : Hp) (a : Addr) (x : Xn) : Prop := ∃ cls d, H a = some (exK a cls d) ∧ XrC.xr S H x cls d
variable [XrC]
theorem XcAt.mono {S H S' H' : Hp} {a : Addr} {x : Xn} (s : Sub S S') (k : ∀ b o, H b = some o → (∀ ys, o ≠ .lst ys) → H' b = some o) (h : XcAt S H a x) : XcAt S' H' a x := by
  obtain ⟨c, d, h1, h2⟩ := h
  exact ⟨c, d, k _ _ h1 (fun ys z => by cases z), XrC.mono s (fun b fs e => k b _ e fun ys z => by cases z) h2⟩
def OwnAt (σ : L2.St) (e : En) (a : Addr) : Prop := ∃ (i : Nat) (ds : List D), e[i]? = some (Sl.o ds) ∧ σ[i]? = some (some (V.ref a))
structure Rel (K : Fg) (S H : Hp) (σ : L2.St) (e : En) : Prop where
  sub : Sub S H
  len : e.length = σ.length
  val : ∀ (i : Nat) (d : D), e[i]? = some (Sl.v d) → ∃ x : V, σ[i]? = some (some x) ∧ Rp K S x d
  own : ∀ (i : Nat) (ds : List D), e[i]? = some (Sl.o ds) → ∃ (a : Addr) (xs : List V), σ[i]? = some (some (V.ref a)) ∧ H a = some (HO.lst xs) ∧ S a = none ∧ RpA K S xs ds
  dis : ∀ (i j : Nat) (a : Addr) (ds es : List D), e[i]? = some (Sl.o ds) → e[j]? = some (Sl.o es) → σ[i]? = some (some (V.ref a)) → σ[j]? = some (some (V.ref a)) → i = j
  fgn : ∀ (i : Nat) (ds : List D), e[i]? = some (Sl.f ds) → ∃ (a : Addr) (xs : List V), σ[i]? = some (some (V.ref a)) ∧ SqL K S a xs ∧ RpA K S xs ds
  exc : ∀ (i : Nat) (x : Xn), e[i]? = some (Sl.x x) → ∃ a : Addr, σ[i]? = some (some (V.ref a)) ∧ XcAt S H a x
/-- from one state to a later one -/
structure Grow (K : Fg) (S H : Hp) (σ : L2.St) (e : En) (S' H' : Hp) (σ' : L2.St) (e' : En) : Prop where
  rel : Rel K S' H' σ' e'
  sub : Sub S S'
  keep : ∀ a o, H a = some o → ¬ OwnAt σ e a → H' a = some o
  free : ∀ a o, H a = some o → ¬ OwnAt σ e a → S a = none → S' a = none
  own : ∀ a, OwnAt σ' e' a → OwnAt σ e a ∨ H a = none
def RepR (K : Fg) (S H : Hp) (σ : L2.St) (e : En) : RV → V → Prop
  | .v d, x => Rp K S x d
  | .b i, x => σ[i]? = some (some x)
  | .o ds, x => ∃ (a : Addr) (xs : List V), x = V.ref a ∧ H a = some (HO.lst xs) ∧ S a = none ∧ RpA K S xs ds ∧ ¬ OwnAt σ e a
/-- a new list is new -/
def Frs (H : Hp) (σ : L2.St) (e : En) : RV → V → Prop
  | .o _, x => ∀ a, x = .ref a → H a = none ∨ OwnAt σ e a
  | _, _ => True
section
variable {K : Fg} {S S' S'' H H' H'' : Hp} {σ σ' σ'' : L2.St} {e e' e'' : En}
theorem Rel.grow (r : Rel K S H σ e) : Grow K S H σ e S H σ e := ⟨r, Sub.rfl', fun _ _ h _ => h, fun _ _ _ _ h => h, fun _ h => .inl h⟩
theorem Grow.notOwn (g : Grow K S H σ e S' H' σ' e') {a : Addr} {o : HO} (h : H a = some o) (n : ¬ OwnAt σ e a) : ¬ OwnAt σ' e' a := fun w => by
  rcases g.own a w with w | w
  · exact n w
  · rw [h] at w; cases w
theorem Grow.trans (g : Grow K S H σ e S' H' σ' e') (g' : Grow K S' H' σ' e' S'' H'' σ'' e'') : Grow K S H σ e S'' H'' σ'' e'' := by
  refine ⟨g'.rel, g.sub.tr g'.sub, fun a o h n => g'.keep a o (g.keep a o h n) (g.notOwn h n), fun a o h n s => g'.free a o (g.keep a o h n) (g.notOwn h n) (g.free a o h n s), fun a w => ?_⟩
  rcases g'.own a w with w | w
  · exact g.own a w
  · by_cases n : OwnAt σ e a
    · exact .inl n
    · right
      cases q : H a with
      | none => rfl
      | some o => rw [g.keep a o q n] at w; cases w
theorem RepR.grow {r : RV} {x : V} (h : RepR K S H σ e r x) (g : Grow K S H σ e S' H' σ e') : RepR K S' H' σ e' r x := by
  cases r with
  | v d => exact Rp.mono g.sub h
  | b i => exact h
  | o ds =>
    obtain ⟨a, xs, rfl, h1, h2, h3, h4⟩ := h
    exact ⟨a, xs, rfl, g.keep _ _ h1 h4, g.free _ _ h1 h4 h2, h3.mono g.sub, g.notOwn h1 h4⟩
theorem Frs.back {r : RV} {x : V} (g : Grow K S H σ e S' H' σ e') (h : Frs H' σ e' r x) : Frs H σ e r x := by
  cases r with
  | v d => trivial
  | b i => trivial
  | o ds =>
    intro a ha
    rcases h a ha with w | w
    · by_cases n : OwnAt σ e a
      · exact .inr n
      · left
        cases q : H a with
        | none => rfl
        | some o => rw [g.keep a o q n] at w; cases w
    · exact (g.own a w).symm

/-- a value as it may be read -/
def Rz (K : Fg) (S H : Hp) (x : V) (d : D) : Prop := Rp K S x d ∨ ∃ (a : Addr) (xs : List V) (ds : List D), x = V.ref a ∧ d = .list ds ∧ H a = some (HO.lst xs) ∧ RpA K S xs ds
theorem Rz.dp {x : V} {d : D} (s : Sub S H) (hd : d.hasDict = false) (h : Rz K S H x d) : Dp K H x d := by
  rcases h with h | ⟨a, xs, ds, rfl, rfl, h1, h2⟩
  · exact (h.mono s).dp hd
  · exact .lst (sqL_of h1) ((h2.mono s).dp (by simpa [PyData.hasDict] using hd))
theorem sh_nd {d : D} (h : SeqAt.shaped d = true) : d.hasDict = false := PyData.hasDict_of_canLay d (SeqAt.canLay_of_shaped h)
theorem Rz.int {x : V} {i : Int} (h : Rz K S H x (.int i)) : x = .int i := by
  rcases h with h | ⟨a, xs, ds, _, e, _⟩
  · cases h; rfl
  · cases e
theorem Rz.bool {x : V} {i : Bool} (h : Rz K S H x (.bool i)) : x = .bl i := by
  rcases h with h | ⟨a, xs, ds, _, e, _⟩
  · cases h; rfl
  · cases e
theorem Rz.str {x : V} {i : Str} (h : Rz K S H x (.str i)) : x = .str i := by
  rcases h with h | ⟨a, xs, ds, _, e, _⟩
  · cases h; rfl
  · cases e
theorem Rz.lst {x : V} {ds : List D} (s : Sub S H) (h : Rz K S H x (.list ds)) : ∃ a xs, x = .ref a ∧ H a = some (HO.lst xs) ∧ RpA K S xs ds := by
  rcases h with h | ⟨a, xs, ds', rfl, e, h1, h2⟩
  · cases h with
    | lst h1 h2 => exact ⟨_, _, rfl, s _ _ h1, h2⟩
  · cases e; exact ⟨a, xs, rfl, h1, h2⟩
theorem Rz.tup {x : V} {ds : List D} (h : Rz K S H x (.tuple ds)) : ∃ a xs, x = .ref a ∧ SqT K S a xs ∧ RpA K S xs ds := by
  rcases h with h | ⟨a, xs, ds', rfl, e, h1, h2⟩
  · cases h with
    | tup h1 h2 => exact ⟨_, _, rfl, h1, h2⟩
  · cases e
theorem res_ok {r : RV} {x : V} {d : D} (q : Rel K S H σ e) (h : RepR K S H σ e r x) (hr : res e r = some d) : Rz K S H x d := by
  cases r with
  | v d' => simp [res] at hr; subst hr; exact .inl h
  | o ds =>
    simp [res] at hr; subst hr
    obtain ⟨a, xs, rfl, h1, h2, h3, h4⟩ := h
    exact .inr ⟨a, xs, ds, rfl, rfl, h1, h3⟩
  | b i =>
    have h : σ[i]? = some (some x) := h
    simp only [res] at hr
    split at hr
    · rename_i d' he
      cases hr
      obtain ⟨y, h1, h2⟩ := q.val i _ he
      rw [h] at h1; cases h1
      exact .inl h2
    · rename_i ds he
      cases hr
      obtain ⟨a, xs, h1, h2, h3, h4⟩ := q.own i _ he
      rw [h] at h1; cases h1
      exact .inr ⟨a, xs, ds, rfl, rfl, h2, h4⟩
    · cases hr
/-- .. or of a foreign list -/
def Rw (K : Fg) (S H : Hp) (x : V) (d : D) : Prop := Rz K S H x d ∨ ∃ (a : Addr) (xs : List V) (ds : List D), x = V.ref a ∧ d = .list ds ∧ SqL K H a xs ∧ RpA K S xs ds
theorem Rw.lst {x : V} {ds : List D} (s : Sub S H) (h : Rw K S H x (.list ds)) : ∃ a xs, x = .ref a ∧ SqL K H a xs ∧ RpA K S xs ds := by
  rcases h with h | ⟨a, xs, ds', rfl, e, h1, h2⟩
  · obtain ⟨a, xs, rfl, h1, h2⟩ := h.lst s
    exact ⟨a, xs, rfl, sqL_of h1, h2⟩
  · cases e; exact ⟨a, xs, rfl, h1, h2⟩
theorem Rw.z {x : V} {d : D} (h : Rw K S H x d) (n : ∀ ds, d ≠ .list ds) : Rz K S H x d := by
  rcases h with h | ⟨a, xs, ds', _, e, _⟩
  · exact h
  · exact absurd e (n _)
theorem resF_ok {r : RV} {x : V} {d : D} (q : Rel K S H σ e) (h : RepR K S H σ e r x) (hr : resF e r = some d) : Rw K S H x d := by
  cases r with
  | v d' => exact .inl (res_ok q h hr)
  | o ds => exact .inl (res_ok q h hr)
  | b i =>
    simp only [resF] at hr
    split at hr
    · rename_i d' he
      cases hr
      exact .inl (res_ok q h (by simp only [res, he]))
    · rename_i ds he
      cases hr
      exact .inl (res_ok q h (by simp only [res, he]))
    · rename_i ds he
      cases hr
      have h : σ[i]? = some (some x) := h
      obtain ⟨a, xs, h1, h2, h3⟩ := q.fgn i _ he
      rw [h] at h1; cases h1
      exact .inr ⟨a, xs, ds, rfl, rfl, q.sub.sqL h2, h3⟩
    · cases hr

/-- a list that is no slot's joins the plain data -/
theorem freeze {a : Addr} {xs : List V} {ds : List D} (q : Rel K S H σ e) (h1 : H a = some (HO.lst xs)) (h2 : S a = none) (h4 : ¬ OwnAt σ e a) : Rel K (upd S a (.lst xs)) H σ e := by
  have sb : Sub S (upd S a (.lst xs)) := Sub.laid h2
  refine ⟨fun b o hb => ?_, q.len, fun i d hi => ?_, fun i es hi => ?_, q.dis, fun i es hi => ?_, fun i x hi => by
    obtain ⟨b, e1, e2⟩ := q.exc i x hi
    exact ⟨b, e1, e2.mono sb fun _ _ h _ => h⟩⟩
  · by_cases hba : b = a
    · subst hba; rw [upd_same] at hb; cases hb; exact h1
    · rw [upd_ne hba] at hb; exact q.sub b o hb
  · obtain ⟨x, e1, e2⟩ := q.val i d hi
    exact ⟨x, e1, e2.mono sb⟩
  · obtain ⟨b, ys, e1, e2, e3, e4⟩ := q.own i es hi
    refine ⟨b, ys, e1, e2, ?_, e4.mono sb⟩
    rw [upd_ne (fun z => h4 (by subst z; exact ⟨i, es, hi, e1⟩))]
    exact e3
  · obtain ⟨b, ys, e1, e2, e3⟩ := q.fgn i es hi
    exact ⟨b, ys, e1, sb.sqL e2, e3.mono sb⟩
theorem get_set {α : Type} {l : List α} {i j : Nat} {x y : α} (h : (l.set i x)[j]? = some y) : (i = j ∧ y = x ∧ i < l.length) ∨ (i ≠ j ∧ l[j]? = some y) := by
  by_cases e : i = j
  · subst e
    by_cases hl : i < l.length
    · rw [List.getElem?_set_self hl] at h; cases h; exact .inl ⟨rfl, rfl, hl⟩
    · rw [List.getElem?_eq_none (by simpa using hl)] at h; cases h
  · rw [List.getElem?_set_ne e] at h
    exact .inr ⟨e, h⟩
/-- the slot's own list is plain data from now on -/
theorem freezeB {i : Nat} {a : Addr} {xs : List V} {ds : List D} (q : Rel K S H σ e) (hi : e[i]? = some (.o ds)) (h0 : σ[i]? = some (some (.ref a))) (h1 : H a = some (HO.lst xs)) (h2 : S a = none) (h3 : RpA K S xs ds) :
    Grow K S H σ e (upd S a (.lst xs)) H σ (e.set i (.v (.list ds))) := by
  have sb : Sub S (upd S a (.lst xs)) := Sub.laid h2
  have own' : ∀ b, OwnAt σ (e.set i (.v (.list ds))) b → OwnAt σ e b ∧ b ≠ a := fun b ⟨j, es, hj, hb⟩ => by
    rcases get_set hj with ⟨_, z, _⟩ | ⟨ne, hj⟩
    · cases z
    · refine ⟨⟨j, es, hj, hb⟩, fun z => ne ?_⟩
      subst z
      exact q.dis i j _ _ _ hi hj h0 hb
  refine ⟨⟨fun b o hb => ?_, by rw [List.length_set]; exact q.len, fun j d hj => ?_, fun j es hj => ?_, fun j k b es fs hj hk => ?_, fun j es hj => ?_, fun j x hj => by
    rcases get_set hj with ⟨_, w, _⟩ | ⟨ne, hj⟩
    · cases w
    · obtain ⟨b, e1, e2⟩ := q.exc j x hj
      exact ⟨b, e1, e2.mono sb fun _ _ h _ => h⟩⟩, sb, fun b o h _ => h, fun b o h n s => ?_, fun b w => .inl (own' b w).1⟩
  · by_cases hba : b = a
    · subst hba; rw [upd_same] at hb; cases hb; exact h1
    · rw [upd_ne hba] at hb; exact q.sub b o hb
  · rcases get_set hj with ⟨z, w, _⟩ | ⟨ne, hj⟩
    · cases w
      subst z
      exact ⟨_, h0, .lst upd_same (h3.mono sb)⟩
    · obtain ⟨x, e1, e2⟩ := q.val j d hj
      exact ⟨x, e1, e2.mono sb⟩
  · rcases get_set hj with ⟨_, w, _⟩ | ⟨ne, hj⟩
    · cases w
    · obtain ⟨b, ys, e1, e2, e3, e4⟩ := q.own j es hj
      refine ⟨b, ys, e1, e2, ?_, e4.mono sb⟩
      rw [upd_ne (fun z => ne (by subst z; exact q.dis i j _ _ _ hi hj h0 e1))]
      exact e3
  · rcases get_set hj with ⟨_, w, _⟩ | ⟨_, hj⟩
    · cases w
    · rcases get_set hk with ⟨_, w, _⟩ | ⟨_, hk⟩
      · cases w
      · exact q.dis j k b _ _ hj hk
  · rcases get_set hj with ⟨_, w, _⟩ | ⟨ne, hj⟩
    · cases w
    · obtain ⟨b, ys, e1, e2, e3⟩ := q.fgn j es hj
      exact ⟨b, ys, e1, sb.sqL e2, e3.mono sb⟩
  · rw [upd_ne (fun z => n (by subst z; exact ⟨i, ds, hi, h0⟩))]
    exact s
theorem RepR.frz {a : Addr} {o : HO} {r : RV} {x : V} (h : RepR K S H σ e r x) (h2 : S a = none) (hn : ∀ ds, r = .o ds → x ≠ .ref a) : RepR K (upd S a o) H σ e r x := by
  cases r with
  | v d => exact Rp.mono (Sub.laid h2) h
  | b i => exact h
  | o ds =>
    obtain ⟨b, xs, rfl, h1, h3, h4, h5⟩ := h
    exact ⟨b, xs, rfl, h1, by rw [upd_ne (fun z => hn ds rfl (by rw [z]))]; exact h3, h4.mono (Sub.laid h2), h5⟩
theorem toV_ok {S0 H0 : Hp} {σ0 : L2.St} {e0 : En} {r : RV} {x : V} {d : D} (g : Grow K S0 H0 σ0 e0 S H σ e) (h : RepR K S H σ e r x) (f : Frs H0 σ0 e0 r x) (hr : toV e r = some (d, e')) :
    ∃ S', Grow K S0 H0 σ0 e0 S' H σ e' ∧ Sub S S' ∧ Rp K S' x d ∧ ∀ r' x', RepR K S H σ e r' x' → (∀ ds ds', r = .o ds → r' = .o ds' → x' ≠ x) → RepR K S' H σ e' r' x' := by
  have q := g.rel
  cases r with
  | v d' => simp [toV] at hr; obtain ⟨rfl, rfl⟩ := hr; exact ⟨S, g, Sub.rfl', h, fun _ _ z _ => z⟩
  | o ds =>
    simp [toV] at hr; obtain ⟨rfl, rfl⟩ := hr
    obtain ⟨a, xs, rfl, h1, h2, h3, h4⟩ := h
    refine ⟨upd S a (.lst xs), ⟨freeze (ds := ds) q h1 h2 h4, g.sub.tr (Sub.laid h2), g.keep, fun b o hb n s => ?_, g.own⟩, Sub.laid h2, .lst upd_same (h3.mono (Sub.laid h2)), fun r' x' z ne => z.frz h2 fun ds' e1 => ne ds ds' rfl e1⟩
    have : b ≠ a := by
      intro z
      subst z
      rcases f b rfl with w | w
      · rw [hb] at w; cases w
      · exact n w
    rw [upd_ne this]; exact g.free b o hb n s
  | b i =>
    have h : σ[i]? = some (some x) := h
    simp only [toV] at hr
    split at hr
    · rename_i d' he
      cases hr
      obtain ⟨y, h1, h2⟩ := q.val i _ he
      rw [h] at h1; cases h1
      exact ⟨S, g, Sub.rfl', h2, fun _ _ z _ => z⟩
    · rename_i ds he
      cases hr
      obtain ⟨a, xs, h1, h2, h3, h4⟩ := q.own i _ he
      rw [h] at h1; cases h1
      have fz := freezeB q he h h2 h3 h4
      exact ⟨_, g.trans fz, fz.sub, .lst upd_same (h4.mono (Sub.laid h3)), fun _ _ z _ => z.grow fz⟩
    · cases hr
end
end Vc
end
section
set_option Elab.async false
set_option linter.all false
namespace Vc
open PySem PySem.Spec L2
variable [XrC]
section
variable {K : Fg} {S S0 H H0 : Hp} {σ σ0 : L2.St} {e e0 : En}
theorem Rel.own_at (q : Rel K S H σ e) {a : Addr} (w : OwnAt σ e a) : ∃ xs, H a = some (HO.lst xs) := by
  obtain ⟨i, ds, h1, h2⟩ := w
  obtain ⟨b, xs, e1, e2, _⟩ := q.own i ds h1
  rw [h2] at e1; cases e1
  exact ⟨xs, e2⟩
theorem Rel.not_own (q : Rel K S H σ e) {p : Addr} (hp : H p = none) : ¬ OwnAt σ e p := fun w => by
  obtain ⟨xs, h⟩ := q.own_at w
  rw [hp] at h; cases h
theorem Grow.new (g : Grow K S0 H0 σ0 e0 S H σ e) {p : Addr} (hp : H p = none) : H0 p = none ∨ OwnAt σ0 e0 p := by
  by_cases n : OwnAt σ0 e0 p
  · exact .inr n
  · left
    cases q : H0 p with
    | none => rfl
    | some o => rw [g.keep p o q n] at hp; cases hp
/-- a new object that is no list of a slot: the heap has it; the plain data too, if it is data -/
theorem Rel.laid (q : Rel K S H σ e) {p : Addr} {o : HO} (hp : H p = none) : Rel K S (upd H p o) σ e := by
  have sb : Sub H (upd H p o) := Sub.laid hp
  exact ⟨q.sub.tr sb, q.len, q.val, fun i ds hi => by
    obtain ⟨a, xs, e1, e2, e3⟩ := q.own i ds hi
    exact ⟨a, xs, e1, sb _ _ e2, e3⟩, q.dis, q.fgn, fun i x hi => by
    obtain ⟨b, e1, e2⟩ := q.exc i x hi
    exact ⟨b, e1, e2.mono Sub.rfl' fun _ _ h _ => sb _ _ h⟩⟩
theorem Rel.frozen (q : Rel K S H σ e) {p : Addr} {o : HO} (h1 : H p = some o) (h2 : S p = none) (h3 : ¬ OwnAt σ e p) : Rel K (upd S p o) H σ e := by
  have sb : Sub S (upd S p o) := Sub.laid h2
  refine ⟨fun b u hb => ?_, q.len, fun i d hi => ?_, fun i es hi => ?_, q.dis, fun i es hi => ?_, fun i x hi => by
    obtain ⟨b, e1, e2⟩ := q.exc i x hi
    exact ⟨b, e1, e2.mono sb fun _ _ h _ => h⟩⟩
  · by_cases hbp : b = p
    · subst hbp; rw [upd_same] at hb; cases hb; exact h1
    · rw [upd_ne hbp] at hb; exact q.sub b u hb
  · obtain ⟨x, e1, e2⟩ := q.val i d hi
    exact ⟨x, e1, e2.mono sb⟩
  · obtain ⟨b, ys, e1, e2, e3, e4⟩ := q.own i es hi
    exact ⟨b, ys, e1, e2, by rw [upd_ne (fun z => h3 (by subst z; exact ⟨i, es, hi, e1⟩))]; exact e3, e4.mono sb⟩
  · obtain ⟨b, ys, e1, e2, e3⟩ := q.fgn i es hi
    exact ⟨b, ys, e1, sb.sqL e2, e3.mono sb⟩
theorem Grow.laid (g : Grow K S0 H0 σ0 e0 S H σ e) {p : Addr} {o : HO} (hp : H p = none) : Grow K S0 H0 σ0 e0 S (upd H p o) σ e :=
  ⟨g.rel.laid hp, g.sub, fun a u h n => Sub.laid hp _ _ (g.keep a u h n), g.free, g.own⟩
theorem Grow.frozen (g : Grow K S0 H0 σ0 e0 S H σ e) {p : Addr} {o : HO} (h1 : H p = some o) (h2 : S p = none) (h3 : ¬ OwnAt σ e p) (hn : H0 p = none ∨ OwnAt σ0 e0 p) : Grow K S0 H0 σ0 e0 (upd S p o) H σ e :=
  ⟨g.rel.frozen h1 h2 h3, g.sub.tr (Sub.laid h2), g.keep, fun a u h n s => by
    have : a ≠ p := fun z => by
      subst z
      rcases hn with w | w
      · rw [h] at w; cases w
      · exact n w
    rw [upd_ne this]; exact g.free a u h n s, g.own⟩
/-- a new tuple -/
theorem Grow.tup (g : Grow K S0 H0 σ0 e0 S H σ e) {p : Addr} {xs : List V} {ds : List D} (hp : H p = none) (r : RpA K S xs ds) :
    ∃ S', Grow K S0 H0 σ0 e0 S' (upd H p (.tup xs)) σ e ∧ Rp K S' (.ref p) (.tuple ds) := by
  have sp : S p = none := g.rel.sub.non hp
  exact ⟨upd S p (.tup xs), (g.laid hp).frozen upd_same sp (g.rel.not_own hp) (g.new hp), .tup (sqT_of upd_same) (r.mono (Sub.laid sp))⟩
/-- a new list -/
theorem Grow.lst (g : Grow K S0 H0 σ0 e0 S H σ e) {p : Addr} {xs : List V} {ds : List D} (hp : H p = none) (r : RpA K S xs ds) :
    Grow K S0 H0 σ0 e0 S (upd H p (.lst xs)) σ e ∧ RepR K S (upd H p (.lst xs)) σ e (.o ds) (.ref p) ∧ Frs H0 σ0 e0 (.o ds) (.ref p) :=
  ⟨g.laid hp, ⟨p, xs, rfl, upd_same, g.rel.sub.non hp, r, g.rel.not_own hp⟩, fun a ha => by cases ha; exact g.new hp⟩
/-- a slot's own list is written -/
theorem Rel.write (q : Rel K S H σ e) {i : Nat} {a : Addr} {ds ds' : List D} {xs xs' : List V} (hi : e[i]? = some (.o ds)) (h0 : σ[i]? = some (some (V.ref a))) (h1 : H a = some (.lst xs)) (r : RpA K S xs' ds') :
    Grow K S H σ e S (upd H a (.lst xs')) σ (e.set i (.o ds')) := by
  have own' : ∀ b, OwnAt σ (e.set i (.o ds')) b → OwnAt σ e b := fun b ⟨j, es, hj, hb⟩ => by
    rcases get_set hj with ⟨z, _, _⟩ | ⟨ne, hj⟩
    · subst z; exact ⟨i, ds, hi, hb⟩
    · exact ⟨j, es, hj, hb⟩
  have ha : S a = none := by
    obtain ⟨b, ys, e1, _, e3, _⟩ := q.own i ds hi
    rw [h0] at e1; cases e1; exact e3
  have wa : OwnAt σ e a := ⟨i, ds, hi, h0⟩
  refine ⟨⟨fun b o hb => ?_, by rw [List.length_set]; exact q.len, fun j d hj => ?_, fun j es hj => ?_, fun j k b es fs hj hk => ?_, fun j es hj => ?_, fun j x hj => by
    rcases get_set hj with ⟨_, w, _⟩ | ⟨ne, hj⟩
    · cases w
    · obtain ⟨b, e1, e2⟩ := q.exc j x hj
      exact ⟨b, e1, e2.mono Sub.rfl' fun c o h no => by rw [upd_ne (fun z => by subst z; rw [h1] at h; cases h; exact no _ rfl)]; exact h⟩⟩, Sub.rfl', fun b o h n => ?_, fun b o h n s => s, fun b w => .inl (own' b w)⟩
  · rw [upd_ne (fun z => by subst z; rw [ha] at hb; cases hb)]; exact q.sub b o hb
  · rcases get_set hj with ⟨_, z, _⟩ | ⟨_, hj⟩
    · cases z
    · exact q.val j d hj
  · rcases get_set hj with ⟨z, w, _⟩ | ⟨ne, hj⟩
    · cases w
      subst z
      exact ⟨a, xs', h0, upd_same, ha, r⟩
    · obtain ⟨b, ys, e1, e2, e3, e4⟩ := q.own j es hj
      exact ⟨b, ys, e1, by rw [upd_ne (fun z => ne (by subst z; exact q.dis i j _ _ _ hi hj h0 e1))]; exact e2, e3, e4⟩
  · intro s1 s2
    rcases get_set hj with ⟨z, _, _⟩ | ⟨_, hj⟩
    · subst z
      rcases get_set hk with ⟨z, _, _⟩ | ⟨_, hk⟩
      · exact z
      · exact q.dis i k b _ _ hi hk s1 s2
    · rcases get_set hk with ⟨z, _, _⟩ | ⟨_, hk⟩
      · subst z; exact q.dis j i b _ _ hj hi s1 s2
      · exact q.dis j k b _ _ hj hk s1 s2
  · rcases get_set hj with ⟨_, w, _⟩ | ⟨ne, hj⟩
    · cases w
    · exact q.fgn j es hj
  · rw [upd_ne (fun z => n (by subst z; exact wa))]; exact h
/-- a slot is stored: plain data -/
theorem Grow.setV (g : Grow K S0 H0 σ0 e0 S H σ e) {i : Nat} {x : V} {d : D} (h : Rp K S x d) : Grow K S0 H0 σ0 e0 S H (σ.set i (some x)) (e.set i (.v d)) := by
  have q := g.rel
  have own' : ∀ b, OwnAt (σ.set i (some x)) (e.set i (.v d)) b → OwnAt σ e b := fun b ⟨j, es, hj, hb⟩ => by
    rcases get_set hj with ⟨_, z, _⟩ | ⟨ne, hj⟩
    · cases z
    · rw [List.getElem?_set_ne ne] at hb; exact ⟨j, es, hj, hb⟩
  refine ⟨⟨q.sub, by rw [List.length_set, List.length_set]; exact q.len, fun j d' hj => ?_, fun j es hj => ?_, fun j k b es fs hj hk => ?_, fun j es hj => ?_, fun j x hj => by
    rcases get_set hj with ⟨_, w, _⟩ | ⟨ne, hj⟩
    · cases w
    · obtain ⟨b, e1, e2⟩ := q.exc j x hj
      exact ⟨b, by rw [List.getElem?_set_ne ne]; exact e1, e2⟩⟩, g.sub, g.keep, g.free, fun b w => g.own b (own' b w)⟩
  · rcases get_set hj with ⟨z, w, l⟩ | ⟨ne, hj⟩
    · cases w
      subst z
      exact ⟨x, List.getElem?_set_self (by rw [← q.len]; exact l), h⟩
    · obtain ⟨y, h1, h2⟩ := q.val j d' hj
      exact ⟨y, by rw [List.getElem?_set_ne ne]; exact h1, h2⟩
  · rcases get_set hj with ⟨_, w, _⟩ | ⟨ne, hj⟩
    · cases w
    · obtain ⟨b, ys, e1, e2⟩ := q.own j es hj
      exact ⟨b, ys, by rw [List.getElem?_set_ne ne]; exact e1, e2⟩
  · intro s1 s2
    rcases get_set hj with ⟨_, w, _⟩ | ⟨n1, hj⟩
    · cases w
    · rcases get_set hk with ⟨_, w, _⟩ | ⟨n2, hk⟩
      · cases w
      · rw [List.getElem?_set_ne n1] at s1
        rw [List.getElem?_set_ne n2] at s2
        exact q.dis j k b _ _ hj hk s1 s2
  · rcases get_set hj with ⟨_, w, _⟩ | ⟨ne, hj⟩
    · cases w
    · obtain ⟨b, ys, e1, e2⟩ := q.fgn j es hj
      exact ⟨b, ys, by rw [List.getElem?_set_ne ne]; exact e1, e2⟩
/-- .. an error that was caught -/
theorem Grow.setX (g : Grow K S0 H0 σ0 e0 S H σ e) {i : Nat} {a : Addr} {x : Xn} (h : XcAt S H a x) : Grow K S0 H0 σ0 e0 S H (σ.set i (some (.ref a))) (e.set i (.x x)) := by
  have q := g.rel
  have own' : ∀ b, OwnAt (σ.set i (some (.ref a))) (e.set i (.x x)) b → OwnAt σ e b := fun b ⟨j, es, hj, hb⟩ => by
    rcases get_set hj with ⟨_, z, _⟩ | ⟨ne, hj⟩
    · cases z
    · rw [List.getElem?_set_ne ne] at hb; exact ⟨j, es, hj, hb⟩
  refine ⟨⟨q.sub, by rw [List.length_set, List.length_set]; exact q.len, fun j d' hj => ?_, fun j es hj => ?_, fun j k b es fs hj hk => ?_, fun j es hj => ?_, fun j y hj => by
    rcases get_set hj with ⟨z, w, l⟩ | ⟨ne, hj⟩
    · cases w
      subst z
      exact ⟨a, List.getElem?_set_self (by rw [← q.len]; exact l), h⟩
    · obtain ⟨b, e1, e2⟩ := q.exc j y hj
      exact ⟨b, by rw [List.getElem?_set_ne ne]; exact e1, e2⟩⟩, g.sub, g.keep, g.free, fun b w => g.own b (own' b w)⟩
  · rcases get_set hj with ⟨_, w, _⟩ | ⟨ne, hj⟩
    · cases w
    · obtain ⟨y, h1, h2⟩ := q.val j d' hj
      exact ⟨y, by rw [List.getElem?_set_ne ne]; exact h1, h2⟩
  · rcases get_set hj with ⟨_, w, _⟩ | ⟨ne, hj⟩
    · cases w
    · obtain ⟨b, ys, e1, e2⟩ := q.own j es hj
      exact ⟨b, ys, by rw [List.getElem?_set_ne ne]; exact e1, e2⟩
  · intro s1 s2
    rcases get_set hj with ⟨_, w, _⟩ | ⟨n1, hj⟩
    · cases w
    · rcases get_set hk with ⟨_, w, _⟩ | ⟨n2, hk⟩
      · cases w
      · rw [List.getElem?_set_ne n1] at s1
        rw [List.getElem?_set_ne n2] at s2
        exact q.dis j k b _ _ hj hk s1 s2
  · rcases get_set hj with ⟨_, w, _⟩ | ⟨ne, hj⟩
    · cases w
    · obtain ⟨b, ys, e1, e2⟩ := q.fgn j es hj
      exact ⟨b, ys, by rw [List.getElem?_set_ne ne]; exact e1, e2⟩
/-- .. forgotten -/
theorem Grow.setN (g : Grow K S0 H0 σ0 e0 S H σ e) {i : Nat} {x : Option V} : Grow K S0 H0 σ0 e0 S H (σ.set i x) (e.set i .no) := by
  have q := g.rel
  have own' : ∀ b, OwnAt (σ.set i x) (e.set i .no) b → OwnAt σ e b := fun b ⟨j, es, hj, hb⟩ => by
    rcases get_set hj with ⟨_, z, _⟩ | ⟨ne, hj⟩
    · cases z
    · rw [List.getElem?_set_ne ne] at hb; exact ⟨j, es, hj, hb⟩
  refine ⟨⟨q.sub, by rw [List.length_set, List.length_set]; exact q.len, fun j d' hj => ?_, fun j es hj => ?_, fun j k b es fs hj hk => ?_, fun j es hj => ?_, fun j x hj => by
    rcases get_set hj with ⟨_, w, _⟩ | ⟨ne, hj⟩
    · cases w
    · obtain ⟨b, e1, e2⟩ := q.exc j x hj
      exact ⟨b, by rw [List.getElem?_set_ne ne]; exact e1, e2⟩⟩, g.sub, g.keep, g.free, fun b w => g.own b (own' b w)⟩
  · rcases get_set hj with ⟨_, w, _⟩ | ⟨ne, hj⟩
    · cases w
    · obtain ⟨y, h1, h2⟩ := q.val j d' hj
      exact ⟨y, by rw [List.getElem?_set_ne ne]; exact h1, h2⟩
  · rcases get_set hj with ⟨_, w, _⟩ | ⟨ne, hj⟩
    · cases w
    · obtain ⟨b, ys, e1, e2⟩ := q.own j es hj
      exact ⟨b, ys, by rw [List.getElem?_set_ne ne]; exact e1, e2⟩
  · intro s1 s2
    rcases get_set hj with ⟨_, w, _⟩ | ⟨n1, hj⟩
    · cases w
    · rcases get_set hk with ⟨_, w, _⟩ | ⟨n2, hk⟩
      · cases w
      · rw [List.getElem?_set_ne n1] at s1
        rw [List.getElem?_set_ne n2] at s2
        exact q.dis j k b _ _ hj hk s1 s2
  · rcases get_set hj with ⟨_, w, _⟩ | ⟨ne, hj⟩
    · cases w
    · obtain ⟨b, ys, e1, e2⟩ := q.fgn j es hj
      exact ⟨b, ys, by rw [List.getElem?_set_ne ne]; exact e1, e2⟩
/-- .. a new list becomes the slot's own -/
theorem Grow.setO (g : Grow K S0 H0 σ0 e0 S H σ e) {i : Nat} {x : V} {ds : List D} (h : RepR K S H σ e (.o ds) x) (f : Frs H0 σ0 e0 (.o ds) x) : Grow K S0 H0 σ0 e0 S H (σ.set i (some x)) (e.set i (.o ds)) := by
  have q := g.rel
  obtain ⟨a, xs, rfl, h1, h2, h3, h4⟩ := h
  have own' : ∀ b, OwnAt (σ.set i (some (.ref a))) (e.set i (.o ds)) b → OwnAt σ e b ∨ b = a := fun b ⟨j, es, hj, hb⟩ => by
    rcases get_set hj with ⟨z, _, l⟩ | ⟨ne, hj⟩
    · subst z
      rw [List.getElem?_set_self (by rw [← q.len]; exact l)] at hb
      cases hb; exact .inr rfl
    · rw [List.getElem?_set_ne ne] at hb; exact .inl ⟨j, es, hj, hb⟩
  refine ⟨⟨q.sub, by rw [List.length_set, List.length_set]; exact q.len, fun j d' hj => ?_, fun j es hj => ?_, fun j k b es fs hj hk => ?_, fun j es hj => ?_, fun j x hj => by
    rcases get_set hj with ⟨_, w, _⟩ | ⟨ne, hj⟩
    · cases w
    · obtain ⟨b, e1, e2⟩ := q.exc j x hj
      exact ⟨b, by rw [List.getElem?_set_ne ne]; exact e1, e2⟩⟩, g.sub, g.keep, g.free, fun b w => ?_⟩
  · rcases get_set hj with ⟨_, w, _⟩ | ⟨ne, hj⟩
    · cases w
    · obtain ⟨y, h1, h2⟩ := q.val j d' hj
      exact ⟨y, by rw [List.getElem?_set_ne ne]; exact h1, h2⟩
  · rcases get_set hj with ⟨z, w, l⟩ | ⟨ne, hj⟩
    · cases w
      subst z
      exact ⟨a, xs, List.getElem?_set_self (by rw [← q.len]; exact l), h1, h2, h3⟩
    · obtain ⟨b, ys, e1, e2⟩ := q.own j es hj
      exact ⟨b, ys, by rw [List.getElem?_set_ne ne]; exact e1, e2⟩
  · intro s1 s2
    rcases get_set hj with ⟨z1, _, l1⟩ | ⟨n1, hj⟩
    · subst z1
      rw [List.getElem?_set_self (by rw [← q.len]; exact l1)] at s1
      cases s1
      rcases get_set hk with ⟨z2, _, _⟩ | ⟨n2, hk⟩
      · exact z2
      · rw [List.getElem?_set_ne n2] at s2
        exact absurd ⟨k, _, hk, s2⟩ h4
    · rw [List.getElem?_set_ne n1] at s1
      rcases get_set hk with ⟨z2, _, l2⟩ | ⟨n2, hk⟩
      · subst z2
        rw [List.getElem?_set_self (by rw [← q.len]; exact l2)] at s2
        cases s2
        exact absurd ⟨j, _, hj, s1⟩ h4
      · rw [List.getElem?_set_ne n2] at s2
        exact q.dis j k b _ _ hj hk s1 s2
  · rcases get_set hj with ⟨_, w, _⟩ | ⟨ne, hj⟩
    · cases w
    · obtain ⟨b, ys, e1, e2⟩ := q.fgn j es hj
      exact ⟨b, ys, by rw [List.getElem?_set_ne ne]; exact e1, e2⟩
  · rcases own' b w with w | w
    · exact g.own b w
    · subst w; exact (f b rfl).symm
/-- a result of the one slot list stands when another new thing is stored -/
theorem RepR.setV {r : RV} {x y : V} {i : Nat} {d : D} (h : RepR K S H σ e r x) (hb : ∀ j, r = .b j → j ≠ i) : RepR K S H (σ.set i (some y)) (e.set i (.v d)) r x := by
  cases r with
  | v d' => exact h
  | b j => exact (List.getElem?_set_ne (Ne.symm (hb j rfl))).trans h
  | o ds =>
    obtain ⟨a, xs, rfl, h1, h2, h3, h4⟩ := h
    refine ⟨a, xs, rfl, h1, h2, h3, fun ⟨j, es, hj, hb⟩ => ?_⟩
    rcases get_set hj with ⟨_, z, _⟩ | ⟨ne, hj⟩
    · cases z
    · rw [List.getElem?_set_ne ne] at hb; exact h4 ⟨j, es, hj, hb⟩
theorem RepR.setO {r : RV} {x y : V} {i : Nat} {ds : List D} (q : Rel K S H σ e) (h : RepR K S H σ e r x) (hb : ∀ j, r = .b j → j ≠ i) (ho : ∀ ds, r = .o ds → x ≠ y) : RepR K S H (σ.set i (some y)) (e.set i (.o ds)) r x := by
  cases r with
  | v d' => exact h
  | b j => exact (List.getElem?_set_ne (Ne.symm (hb j rfl))).trans h
  | o ds' =>
    obtain ⟨a, xs, rfl, h1, h2, h3, h4⟩ := h
    refine ⟨a, xs, rfl, h1, h2, h3, fun ⟨j, es, hj, hb⟩ => ?_⟩
    rcases get_set hj with ⟨z, _, l⟩ | ⟨ne, hj⟩
    · subst z
      rw [List.getElem?_set_self (by rw [← q.len]; exact l)] at hb
      cases hb; exact ho ds' rfl rfl
    · rw [List.getElem?_set_ne ne] at hb; exact h4 ⟨j, es, hj, hb⟩
end

def NoO (x : V) (rs : List RV) (xs : List V) : Prop := ∀ (j : Nat) (ds : List D), rs[j]? = some (.o ds) → xs[j]? ≠ some x
inductive RepRs (K : Fg) (S H : Hp) (σ : L2.St) (e : En) : List RV → List V → Prop
  | nil : RepRs K S H σ e [] []
  | cons {r : RV} {x : V} {rs : List RV} {xs : List V} : RepR K S H σ e r x → (∀ ds, r = .o ds → NoO x rs xs) → RepRs K S H σ e rs xs → RepRs K S H σ e (r :: rs) (x :: xs)
inductive FrsA (H : Hp) (σ : L2.St) (e : En) : List RV → List V → Prop
  | nil : FrsA H σ e [] []
  | cons {r : RV} {x : V} {rs : List RV} {xs : List V} : Frs H σ e r x → FrsA H σ e rs xs → FrsA H σ e (r :: rs) (x :: xs)
section
variable {K : Fg} {S S' S0 H H' H0 : Hp} {σ σ0 : L2.St} {e e' e0 : En}
theorem RepRs.length : ∀ {rs : List RV} {xs : List V}, RepRs K S H σ e rs xs → rs.length = xs.length
  | _, _, .nil => rfl
  | _, _, .cons _ _ r => congrArg (· + 1) r.length
theorem RepRs.grow (g : Grow K S H σ e S' H' σ e') : ∀ {rs : List RV} {xs : List V}, RepRs K S H σ e rs xs → RepRs K S' H' σ e' rs xs
  | _, _, .nil => .nil
  | _, _, .cons a n r => .cons (a.grow g) n (r.grow g)
theorem FrsA.back (g : Grow K S H σ e S' H' σ e') : ∀ {rs : List RV} {xs : List V}, FrsA H' σ e' rs xs → FrsA H σ e rs xs
  | _, _, .nil => .nil
  | _, _, .cons a r => .cons (a.back g) (r.back g)
theorem FrsA.get : ∀ {rs : List RV} {xs : List V} {j : Nat} {r : RV} {x : V}, FrsA H σ e rs xs → rs[j]? = some r → xs[j]? = some x → Frs H σ e r x
  | _, _, _, _, _, .nil, h, _ => by simp at h
  | _, _, 0, _, _, .cons a _, h, h' => by simp at h h'; subst h h'; exact a
  | _, _, j + 1, _, _, .cons _ t, h, h' => t.get (j := j) (by simpa using h) (by simpa using h')
theorem RepRs.get : ∀ {rs : List RV} {xs : List V} {j : Nat} {r : RV}, RepRs K S H σ e rs xs → rs[j]? = some r → ∃ x, xs[j]? = some x ∧ RepR K S H σ e r x
  | _, _, _, _, .nil, h => by simp at h
  | _, _, 0, _, .cons a _ _, h => by simp at h; subst h; exact ⟨_, rfl, a⟩
  | _, _, j + 1, _, .cons _ _ t, h => by
    obtain ⟨x, h1, h2⟩ := t.get (j := j) (by simpa using h)
    exact ⟨x, by simpa using h1, h2⟩
/-- a new list made behind another state is none of that state's new lists -/
theorem noO_of (h : RepRs K S' H' σ e' rs xs) (f : FrsA H σ e rs xs) {x : V} {ds : List D} (r : RepR K S H σ e (.o ds) x) : NoO x rs xs := fun j es hj hx => by
  obtain ⟨a, ys, rfl, h1, _, _, h4⟩ := r
  rcases f.get hj hx a rfl with w | w
  · rw [h1] at w; cases w
  · exact h4 w
theorem toVs_ok : ∀ {rs : List RV} {xs : List V} {S H : Hp} {e e' : En} {ds : List D}, Grow K S0 H0 σ0 e0 S H σ e → RepRs K S H σ e rs xs → FrsA H0 σ0 e0 rs xs → toVs rs e = some (ds, e') →
    ∃ S', Grow K S0 H0 σ0 e0 S' H σ e' ∧ Sub S S' ∧ RpA K S' xs ds
  | _, _, S, H, e, e', ds, g, .nil, .nil, h => by
    simp [toVs] at h; obtain ⟨rfl, rfl⟩ := h
    exact ⟨S, g, Sub.rfl', .nil⟩
  | r :: rs, x :: xs, S, H, e, e', ds, g, .cons a n t, .cons f ft, h => by
    simp only [toVs, Option.bind_eq_some_iff, Option.map_eq_some_iff] at h
    obtain ⟨⟨d, e1⟩, h1, ⟨ds', e2⟩, h2, h3⟩ := h
    cases h3
    obtain ⟨S1, g1, s1, p1, k1⟩ := toV_ok g a f h1
    have t1 : RepRs K S1 H σ e1 rs xs := by
      have key : ∀ {rs : List RV} {xs : List V}, RepRs K S H σ e rs xs → (∀ ds, r = .o ds → NoO x rs xs) → RepRs K S1 H σ e1 rs xs := by
        intro rs xs q
        induction q with
        | nil => exact fun _ => .nil
        | cons b m u ih =>
          intro no
          refine .cons (k1 _ _ b fun ds ds' e1 e2 z => ?_) m (ih fun ds hr j es hj => no ds hr (j + 1) es (by simpa using hj))
          subst z
          exact no ds e1 0 ds' (by simp [e2]) (by simp)
      exact key t n
    obtain ⟨S2, g2, s2, p2⟩ := toVs_ok g1 t1 ft h2
    exact ⟨S2, g2, s1.tr s2, .cons (p1.mono s2) p2⟩
theorem ress_ok (q : Rel K S H σ e) : ∀ {rs : List RV} {xs : List V} {ds : List D}, RepRs K S H σ e rs xs → ress e rs = some ds → Paired (Rz K S H) xs ds
  | _, _, _, .nil, h => by simp [ress] at h; subst h; exact .nil
  | _, _, _, .cons a _ t, h => by
    simp only [ress, Option.bind_eq_some_iff, Option.map_eq_some_iff] at h
    obtain ⟨d, h1, ds', h2, rfl⟩ := h
    exact .cons (res_ok q a h1) (ress_ok q t h2)
theorem ressF_ok (q : Rel K S H σ e) : ∀ {rs : List RV} {xs : List V} {ds : List D}, RepRs K S H σ e rs xs → ressF e rs = some ds → Paired (Rw K S H) xs ds
  | _, _, _, .nil, h => by simp [ressF] at h; subst h; exact .nil
  | _, _, _, .cons a _ t, h => by
    simp only [ressF, Option.bind_eq_some_iff, Option.map_eq_some_iff] at h
    obtain ⟨d, h1, ds', h2, rfl⟩ := h
    exact .cons (resF_ok q a h1) (ressF_ok q t h2)
end

/-- the written part, what is wanted of an exception, how an exception lies -/
structure Gx where
  K : Fg
  W : WX
  xr : Hp → Hp → Xn → Value → Option Addr → Prop
  /-- the attributes' slots: the slot, the object's slot, the attribute's name, the class' name -/
  gh : List (Nat × Nat × Str × Str)
  mg : Str → Option Value
  /-- the names of a class' attributes -/
  fl : Str → List Str
  /-- the slots that new objects and their attributes may take -/
  nw : List Nat
/-- the slots without the attributes' -/
def wipG : List (Nat × Nat × Str × Str) → L2.St → L2.St
  | [], τ => τ
  | q :: r, τ => (wipG r τ).set q.1 none
def base (G : Gx) (τ : L2.St) : L2.St := wipG G.gh τ
theorem wipG_len : ∀ {g : List (Nat × Nat × Str × Str)} {τ : L2.St}, (wipG g τ).length = τ.length
  | [], _ => rfl
  | _ :: r, _ => by rw [wipG, List.length_set]; exact wipG_len (g := r)
theorem wipG_get : ∀ {g : List (Nat × Nat × Str × Str)} {τ : L2.St} {i : Nat}, i ∉ g.map (·.1) → (wipG g τ)[i]? = τ[i]?
  | [], _, _, _ => rfl
  | q :: r, _, i, h => by
    rw [List.map_cons, List.mem_cons, not_or] at h
    rw [wipG, List.getElem?_set_ne (Ne.symm h.1)]
    exact wipG_get h.2
theorem set_comm' {α : Type} {l : List α} {i j : Nat} {x y : α} (h : i ≠ j) : (l.set i x).set j y = (l.set j y).set i x := by
  refine List.ext_getElem? fun k => ?_
  simp only [List.getElem?_set, List.length_set]
  by_cases a : i = k <;> by_cases b : j = k <;> simp [a, b]
  omega
theorem wipG_set {x : Option V} : ∀ {g : List (Nat × Nat × Str × Str)} {τ : L2.St} {i : Nat}, i ∉ g.map (·.1) → wipG g (τ.set i x) = (wipG g τ).set i x
  | [], _, _, _ => rfl
  | q :: r, _, i, h => by
    rw [List.map_cons, List.mem_cons, not_or] at h
    rw [wipG, wipG, wipG_set h.2, set_comm' h.1]
theorem base_len {G : Gx} {τ : L2.St} : (base G τ).length = τ.length := wipG_len
theorem base_get {G : Gx} {τ : L2.St} {i : Nat} (h : i ∉ G.gh.map (·.1)) : (base G τ)[i]? = τ[i]? := wipG_get h
theorem at_base {G : Gx} {σ τ : L2.St} {i : Nat} {x : Option (Option V)} (h : base G τ = σ) (hi : i ∉ G.gh.map (·.1)) (e : τ[i]? = x) : σ[i]? = x := by rw [← h, base_get hi, e]
theorem base_set {G : Gx} {τ : L2.St} {i : Nat} {x : Option V} (h : i ∉ G.gh.map (·.1)) : base G (τ.set i x) = (base G τ).set i x := wipG_set h
/-- an attribute's slot holds what the object's attribute holds -/
def LkV (mg : Str → Option Value) (fl : Str → List Str) (gh : List (Nat × Nat × Str × Str)) (τ : L2.St) (S : Hp) : Prop := ∀ q ∈ gh, ∀ v, τ[q.1]? = some (some v) → ∃ p C dx fs, mg q.2.2.2 = some (.ref C) ∧ τ[q.2.1]? = some (some (.ref p)) ∧ S p = some (.ins C dx fs) ∧ fs.lookup q.2.2.1 = some v ∧ fs.map (·.1) = fl q.2.2.2
def Lk (G : Gx) (τ : L2.St) (S : Hp) : Prop := LkV G.mg G.fl G.gh τ S
theorem Lk.mono {G : Gx} {S S' : Hp} {τ : L2.St} (h : Lk G τ S) (s : Sub S S') : Lk G τ S' := fun q hq v hv => by
  obtain ⟨p, C, dx, fs, h1, h2, h3, h4, h5⟩ := h q hq v hv
  exact ⟨p, C, dx, fs, h1, h2, s _ _ h3, h4, h5⟩
theorem Lk.set {G : Gx} {S : Hp} {τ : L2.St} {i : Nat} {x : Option V} (h : Lk G τ S) (h1 : i ∉ G.gh.map (·.1)) (h2 : i ∉ G.gh.map (·.2.1)) : Lk G (τ.set i x) S := fun q hq v hv => by
  rw [List.getElem?_set_ne (fun z => h1 (by rw [z]; exact List.mem_map_of_mem hq))] at hv
  obtain ⟨p, C, dx, fs, q1, q2, q3⟩ := h q hq v hv
  exact ⟨p, C, dx, fs, q1, by rw [List.getElem?_set_ne (fun z => h2 (by rw [z]; exact List.mem_map.mpr ⟨q, hq, rfl⟩))]; exact q2, q3⟩
section
variable (G : Gx) (S H : Hp) (σ : L2.St) (e : En)
def PX (x : Xn) (e' : En) : Prop := ∀ cls d S' H', Grow G.K S H σ e S' H' σ e' → G.xr S' H' x cls d → G.W cls d (base G σ) H'
def PR (Q : V → Hp → Prop) : R → Prop
  | .st => False
  | .ok r e' => ∀ x S' H', Grow G.K S H σ e S' H' σ e' → RepR G.K S' H' σ e' r x → Frs H σ e r x → Q x H'
  | .ex x e' => PX G S H σ e x e'
def PL (Q : List V → Hp → Prop) : RL → Prop
  | .st => False
  | .ok rs e' => ∀ xs S' H', Grow G.K S H σ e S' H' σ e' → RepRs G.K S' H' σ e' rs xs → FrsA H σ e rs xs → Q xs H'
  | .ex x e' => PX G S H σ e x e'
def PB (Q : Bool → Hp → Prop) : RT → Prop
  | .st => False
  | .ok b e' => ∀ S' H', Grow G.K S H σ e S' H' σ e' → Q b H'
  | .ex x e' => PX G S H σ e x e'
end
section
variable {G : Gx} {S S1 H H1 : Hp} {σ : L2.St} {e e1 : En}
theorem PX.step (g : Grow G.K S H σ e S1 H1 σ e1) {x : Xn} {e' : En} (h : PX G S H σ e x e') : PX G S1 H1 σ e1 x e' :=
  fun cls d S' H' g' r => h cls d S' H' (g.trans g') r
theorem PR.step (g : Grow G.K S H σ e S1 H1 σ e1) {Q : V → Hp → Prop} {r : R} (h : PR G S H σ e Q r) : PR G S1 H1 σ e1 Q r := by
  cases r with
  | st => exact h
  | ok r e' => exact fun x S' H' g' rp f => h x S' H' (g.trans g') rp (f.back g)
  | ex x e' => exact PX.step g h
theorem PB.step (g : Grow G.K S H σ e S1 H1 σ e1) {Q : Bool → Hp → Prop} {r : RT} (h : PB G S H σ e Q r) : PB G S1 H1 σ e1 Q r := by
  cases r with
  | st => exact h
  | ok r e' => exact fun S' H' g' => h S' H' (g.trans g')
  | ex x e' => exact PX.step g h
theorem PR.bd {Q Q' : V → Hp → Prop} {r : R} {f : RV → En → R} (h : PR G S H σ e Q (r.bd f))
    (k : ∀ r1 e1 x S1 H1, r = .ok r1 e1 → Grow G.K S H σ e S1 H1 σ e1 → RepR G.K S1 H1 σ e1 r1 x → Frs H σ e r1 x → PR G S H σ e Q (f r1 e1) → Q' x H1) : PR G S H σ e Q' r := by
  cases r with
  | st => exact h
  | ok r1 e1 => exact fun x S' H' g rp fr => k r1 e1 x S' H' rfl g rp fr h
  | ex x e' => exact h
theorem PL.bd {Q : V → Hp → Prop} {Q' : List V → Hp → Prop} {r : RL} {f : List RV → En → R} (h : PR G S H σ e Q (r.bd f))
    (k : ∀ rs e1 xs S1 H1, r = .ok rs e1 → Grow G.K S H σ e S1 H1 σ e1 → RepRs G.K S1 H1 σ e1 rs xs → FrsA H σ e rs xs → PR G S H σ e Q (f rs e1) → Q' xs H1) : PL G S H σ e Q' r := by
  cases r with
  | st => exact h
  | ok r1 e1 => exact fun x S' H' g rp fr => k r1 e1 x S' H' rfl g rp fr h
  | ex x e' => exact h
theorem PB.bd {Q : V → Hp → Prop} {Q' : Bool → Hp → Prop} {r : RT} {f : Bool → En → R} (h : PR G S H σ e Q (r.bd f))
    (k : ∀ b e1 S1 H1, r = .ok b e1 → Grow G.K S H σ e S1 H1 σ e1 → PR G S H σ e Q (f b e1) → Q' b H1) : PB G S H σ e Q' r := by
  cases r with
  | st => exact h
  | ok r1 e1 => exact fun S' H' g => k r1 e1 S' H' rfl g h
  | ex x e' => exact h
end
/-- the readings -/
def tE (G : Gx) (f : En → R) : TE := fun σ H Q => ∃ τ, base G τ = σ ∧ ∃ S e, Rel G.K S H τ e ∧ Lk G τ S ∧ PR G S H τ e Q (f e)
def tL (G : Gx) (f : En → RL) : TA := fun σ H Q => ∃ τ, base G τ = σ ∧ ∃ S e, Rel G.K S H τ e ∧ Lk G τ S ∧ PL G S H τ e Q (f e)
def tT (G : Gx) (f : En → RT) : TT := fun σ H Q => ∃ τ, base G τ = σ ∧ ∃ S e, Rel G.K S H τ e ∧ Lk G τ S ∧ PB G S H τ e Q (f e)
end Vc
end
section
set_option Elab.async false
set_option linter.all false
set_option maxRecDepth 100000
set_option maxHeartbeats 4000000
namespace Vc
open PySem PySem.Spec PyProof.Rows L2
theorem tuple_mul1 (l : Addr) (items : Array Value) (n : Nat) (dd : Option Addr) (sl : Array (Option Value)) (u : Tok) :
    Meets (Builtin.«tuple.__mul__» ⟨[.ref l, .int 1 u], []⟩) (fun _ R s => s.heap.get? l = some { cls := .type "tuple", dict := dd, data := .seq items n, slots := sl } ∧ R (.ok (.ret (Value.ref l))) s) :=
  .of_wp fun prog w A R s h => by
    obtain ⟨hp, g, d, tk, os⟩ := s
    obtain ⟨hl, h⟩ := h
    have f1 := AutoSeq1.idx_int
    wp_walk using wpAny_loadPart' hl
    repeat (first
      | (refine wpAny_ite_true (decide_eq_true (by simp)) ?_; wp_walk using wpAny_loadPart' hl)
      | (refine wpAny_ite_false (decide_eq_false (by simp)) ?_; wp_walk using wpAny_loadPart' hl))
    exact ⟨_, rfl, h⟩
theorem tuple_mul0 (l : Addr) (items : Array Value) (n : Nat) (dd : Option Addr) (sl : Array (Option Value)) (u : Tok) :
    Meets (Builtin.«tuple.__mul__» ⟨[.ref l, .int 0 u], []⟩) (fun _ R s => s.heap.get? l = some { cls := .type "tuple", dict := dd, data := .seq items n, slots := sl } ∧ items.isEmpty = false ∧
      R (.ok (.ret (Value.ref s.heap.objs.size))) { s with heap := s.heap.push { cls := Value.type "tuple", data := Data.seq #[] } }) :=
  .of_wp fun prog w A R s h => by
    obtain ⟨hp, g, d, tk, os⟩ := s
    obtain ⟨hl, he, h⟩ := h
    have f1 := AutoSeq1.idx_int
    wp_walk using wpAny_loadPart' hl
    repeat (first
      | (refine wpAny_ite_true (decide_eq_true (by simp)) ?_; wp_walk using wpAny_loadPart' hl)
      | (refine wpAny_ite_false (decide_eq_false (by simp [he])) ?_; wp_walk using wpAny_loadPart' hl))
    exact ⟨_, rfl, h⟩
def rRepU (K : PySem.W.Frag) : R2 := fun x y H Q => ∃ l k xs, x = .ref l ∧ y = .int k ∧ SqT K H l xs ∧ xs ≠ [] ∧ 0 ≤ k ∧ k ≤ 1000 ∧ xs.length ≤ 1000 ∧ (k = 1 → Q (.ref l) H) ∧ (k ≠ 1 → ∀ p, H p = none → Q (.ref p) (upd H p (.tup (List.replicate k.toNat xs).flatten)))
section
variable {X : Cx}
theorem op_repU : OpR X (binaryOp .Mult) (rRepU X.K) := by
  intro pins s σ H x y v u Q I rx ry h
  obtain ⟨l, k, xs, rfl, rfl, hT, hne, h1, h2, hz, q1, q⟩ := h
  by_cases k2 : 2 ≤ k
  · exact op_repT pins s σ H _ _ v u Q I rx ry ⟨l, k, xs, rfl, rfl, hT, hne, k2, h2, hz, q (by omega)⟩
  cases rx
  obtain ⟨t, rfl⟩ := ry
  obtain ⟨its, r, ⟨⟨cls, dd, data, sl⟩, ho, hc, n, hd⟩, hs⟩ := I.tuple hT
  simp only at hc hd
  subst hc hd
  have hle : its.length = xs.length := r.length.symm
  have hn : its ≠ [] := fun e => hne (by
    rw [e] at hle
    exact List.eq_nil_of_length_eq_zero hle.symm)
  have hi : its.toArray.isEmpty = false := by
    cases its with
    | nil => exact absurd rfl hn
    | cons a b => rfl
  by_cases k1 : k = 1
  · subst k1
    refine wpAny_binaryOp_repeat_ref (T := "tuple") (U := "int") (by decide) ⟨_, ho, rfl⟩ (fun s' => typeIs_int s' 1 t) noFill_tuple_mul F.fills_int_mul F.slot_int_rmul repeat_tuple F.slot_int_index.lookup
      (call_meets F.slot_int_rmul (typeIs_int s 1 t) F.entry_int_rmul (F.args_int_rmul_2 _ _) (int_rmul_tuple 1 t l its.toArray n dd sl)
        ⟨ho, rfl, ⟨_, ho, rfl⟩, call_meets F.slot_tuple_mul ⟨_, ho, rfl⟩ F.entry_tuple_mul (F.args_tuple_mul_2 _ _) (tuple_mul1 l its.toArray n dd sl t) ⟨ho, ?_⟩⟩)
    exact ⟨.ref l, H, I, rfl, q1 rfl⟩
  · have k0 : k = 0 := by omega
    subst k0
    refine wpAny_binaryOp_repeat_ref (T := "tuple") (U := "int") (by decide) ⟨_, ho, rfl⟩ (fun s' => typeIs_int s' 0 t) noFill_tuple_mul F.fills_int_mul F.slot_int_rmul repeat_tuple F.slot_int_index.lookup
      (call_meets F.slot_int_rmul (typeIs_int s 0 t) F.entry_int_rmul (F.args_int_rmul_2 _ _) (int_rmul_tuple 0 t l its.toArray n dd sl)
        ⟨ho, rfl, ⟨_, ho, rfl⟩, call_meets F.slot_tuple_mul ⟨_, ho, rfl⟩ F.entry_tuple_mul (F.args_tuple_mul_2 _ _) (tuple_mul0 l its.toArray n dd sl t) ⟨ho, hi, ?_⟩⟩)
    refine ⟨.ref s.heap.objs.size, _, I.laid (t' := s.toks) (o := .tup []) (fun b ob q => Heap.get?_push_of_some _ q) (Nat.le_refl _) ?_, rfl, q (by omega) _ (I.hok.fresh (Nat.le_refl _))⟩
    exact ⟨Nat.zero_le _, [], .nil, IsTup.new _ _⟩
end
end Vc
end
section
set_option Elab.async false
set_option linter.all false
namespace Vc
open PySem PySem.Spec PyProof.Rows L2
variable [XrC]

/-- a result r in the making is delivered to Q -/
def Dl (K : Fg) (S H : Hp) (r : RV) (Q : VK) : Prop := ∃ (σ : L2.St) (e : En) (S0 H0 : Hp) (σ0 : L2.St) (e0 : En),
  Grow K S0 H0 σ0 e0 S H σ e ∧ ∀ x S' H', Grow K S0 H0 σ0 e0 S' H' σ e → RepR K S' H' σ e r x → Frs H0 σ0 e0 r x → Q x H'
section
variable {K : Fg} {S H : Hp} {r : RV} {Q : VK} {x : V} {d : D}
theorem Dl.sub (h : Dl K S H r Q) : Sub S H := by
  obtain ⟨_, _, _, _, _, _, g, _⟩ := h; exact g.rel.sub
theorem Dl.val (h : Dl K S H (.v d) Q) (p : Rp K S x d) : Q x H := by
  obtain ⟨_, _, _, _, _, _, g, k⟩ := h
  exact k x S H g p trivial
theorem Dl.tup {p : Addr} {xs : List V} {ds : List D} (h : Dl K S H (.v (.tuple ds)) Q) (hp : H p = none) (q : RpA K S xs ds) : Q (.ref p) (upd H p (.tup xs)) := by
  obtain ⟨_, _, _, _, _, _, g, k⟩ := h
  obtain ⟨S', g', p'⟩ := g.tup hp q
  exact k _ S' _ g' p' trivial
theorem Dl.lst {p : Addr} {xs : List V} {ds : List D} (h : Dl K S H (.o ds) Q) (hp : H p = none) (q : RpA K S xs ds) : Q (.ref p) (upd H p (.lst xs)) := by
  obtain ⟨_, _, _, _, _, _, g, k⟩ := h
  obtain ⟨g', r', f'⟩ := g.lst hp q
  exact k _ S _ g' r' f'
theorem Dl.of {G : Gx} {S0 H0 : Hp} {σ : L2.St} {e0 e : En} (g : Grow G.K S0 H0 σ e0 S H σ e) (h : PR G S0 H0 σ e0 Q (.ok r e)) : Dl G.K S H r Q := ⟨σ, e, S0, H0, σ, e0, g, h⟩
end

section
variable {X : Cx}
def opA : Op2 → Operator
  | .add => .Add | .sub => .Sub | .mul => .Mult | .fdiv => .FloorDiv | .mod => .Mod | .pow => .Pow
def rO (K : Fg) (o : Op2) : R2 := fun x y H Q => ∃ S d d' r, Rz K S H x d ∧ Rz K S H y d' ∧ op2 o d d' = some r ∧ Dl K S H r Q
theorem op_powL : OpR X (binaryOp .Pow) (rI (fun i n => 0 ≤ n ∧ (Builtin.Int.intBits i : Int) * n ≤ 2 ^ 27) fun i n => .int (i ^ n.toNat)) := opI fun _ _ _ _ _ _ _ hc q => pow_int hc.1 hc.2 q
theorem opR : ∀ o : Op2, OpR X (binaryOp (opA o)) (rO X.K o) := by
  intro o pins s σ H x y v u Q I rx ry ⟨S, d, d', r, h1, h2, h3, h4⟩
  have sb := h4.sub
  cases o with
  | add =>
    simp only [op2, addD] at h3
    split at h3
    · cases h3; exact op_add pins s σ H x y v u Q I rx ry ⟨_, _, h1.int, h2.int, h4.val (.int _)⟩
    · split at h3
      · rename_i hl; cases h3; exact op_add_str pins s σ H x y v u Q I rx ry ⟨_, _, h1.str, h2.str, hl, h4.val (.str _)⟩
      · cases h3
    · split at h3
      · rename_i hl; cases h3
        obtain ⟨a, xs, rfl, a1, a2⟩ := h1.lst sb
        obtain ⟨b, ys, rfl, b1, b2⟩ := h2.lst sb
        exact op_cat pins s σ H _ _ v u Q I rx ry ⟨a, b, xs, ys, rfl, rfl, a1, b1, by rw [a2.length, b2.length]; exact hl, fun p hp => h4.lst hp (a2.append b2)⟩
      · cases h3
    · split at h3
      · rename_i hl; cases h3
        obtain ⟨a, xs, rfl, a1, a2⟩ := h1.tup
        obtain ⟨b, ys, rfl, b1, b2⟩ := h2.tup
        refine op_catA pins s σ H _ _ v u Q I rx ry ⟨a, b, xs, ys, rfl, rfl, sb.sqT a1, sb.sqT b1, by rw [a2.length, b2.length]; exact hl, fun e => ?_, fun _ e => ?_, fun _ _ p hp => h4.tup hp (a2.append b2)⟩
        · subst e; cases a2; exact h4.val (.tup b1 b2)
        · subst e; cases b2; rw [List.append_nil] at h4; exact h4.val (.tup a1 a2)
      · cases h3
    · cases h3
  | sub =>
    simp only [op2, subD] at h3
    split at h3
    · cases h3; exact op_sub pins s σ H x y v u Q I rx ry ⟨_, _, h1.int, h2.int, h4.val (.int _)⟩
    · cases h3
  | mul =>
    simp only [op2, mulD] at h3
    split at h3
    · split at h3
      · rename_i hl; cases h3; exact op_mulW pins s σ H x y v u Q I rx ry ⟨_, _, h1.int, h2.int, (show _ < _ from by simpa [mulOk] using hl), h4.val (.int _)⟩
      · cases h3
    · split at h3
      · rename_i hl; cases h3
        obtain ⟨a, xs, rfl, a1, a2⟩ := h1.lst sb
        have hk := cd_iff.mp hl
        exact op_rep pins s σ H _ _ v u Q I rx ry ⟨a, _, xs, rfl, h2.int, a1, hk.1, hk.2.1, by rw [a2.length]; exact hk.2.2, fun p hp => h4.lst hp (a2.flatrep _)⟩
      · cases h3
    · split at h3
      · rename_i hl; cases h3
        obtain ⟨a, xs, rfl, a1, a2⟩ := h1.tup
        obtain ⟨k1, k2, k3, k4⟩ := cd_iff.mp hl
        refine op_repU pins s σ H _ _ v u Q I rx ry ⟨a, _, xs, rfl, h2.int, sb.sqT a1, fun e => ?_, k3, k4, by rw [a2.length]; exact k2, fun e => ?_, fun _ p hp => h4.tup hp (a2.flatrep _)⟩
        · subst e; cases a2; simp at k1
        · subst e
          have e2 : ∀ l : List D, (List.replicate (1 : Int).toNat l).flatten = l := fun l => List.append_nil l
          rw [e2] at h4
          exact h4.val (.tup a1 a2)
      · cases h3
    · cases h3
  | fdiv =>
    simp only [op2, fdivD] at h3
    split at h3
    · split at h3
      · rename_i hl; cases h3; exact op_fdivW pins s σ H x y v u Q I rx ry ⟨_, _, h1.int, h2.int, (show _ ∧ _ from by simpa [divOk] using hl), h4.val (.int _)⟩
      · cases h3
    · cases h3
  | mod =>
    simp only [op2, modD] at h3
    split at h3
    · split at h3
      · rename_i hl; cases h3; exact op_mod pins s σ H x y v u Q I rx ry ⟨_, _, h1.int, h2.int, of_decide_eq_true hl, h4.val (.int _)⟩
      · cases h3
    · cases h3
  | pow =>
    simp only [op2, powD] at h3
    split at h3
    · split at h3
      · rename_i hl; cases h3; exact op_powL pins s σ H x y v u Q I rx ry ⟨_, _, h1.int, h2.int, cd_iff.mp hl, h4.val (.int _)⟩
      · cases h3
    · cases h3

def cpA : Cp → CmpOp
  | .eq => .Eq | .ne => .NotEq | .lt => .Lt | .le => .LtE | .gt => .Gt | .ge => .GtE | .inn => .In | .nin => .NotIn
def rC (K : Fg) (o : Cp) : R2 := fun x y H Q => ∃ S d d' r, Sub S H ∧ Rz K S H x d ∧ Rz K S H y d' ∧ cmpD o d d' = some r ∧ Q (.bl r) H
theorem str_one {a : Str} {c : Nat} (h : a.cps.toList = [c]) : a = ⟨#[c]⟩ := by
  cases a with
  | mk cps =>
    have h' : cps.toList = [c] := h
    have : cps = #[c] := by rw [← Array.toArray_toList (xs := cps), h']
    rw [this]
theorem vals_len : ∀ {xs : List V} {us : List Value}, Vals xs us → xs.length = us.length
  | _, _, .nil => rfl
  | _, _, .cons _ r => congrArg (· + 1) (vals_len r)
/-- == and != of lists of unlike lengths -/
theorem eq_lens (hu : X.A.units < cLine) {pins : List (Addr × Obj)} {s : Shared} {σ : L2.St} {H : Hp} {a b : Addr} {xs ys : List V} {Q : VK} (I : L2.Inv X pins σ H s) (ha : H a = some (HO.lst xs)) (hb : H b = some (HO.lst ys)) (hne : xs.length ≠ ys.length) (op : CmpOp) (r : Bool) (ho : op = .Eq ∧ r = false ∨ op = .NotEq ∧ r = true) (q : Q (.bl r) H) :
    wpAny (model X.prog X.w) X.A (compareOp op (.ref a) (.ref b)) (EP X pins σ Q) X.xe s := by
  obtain ⟨its, rv, p, _⟩ := I.list (sqL_of (K := X.K) ha)
  obtain ⟨its2, rv2, p2, _⟩ := I.list (sqL_of (K := X.K) hb)
  have l1 := vals_len rv
  have l2 := vals_len rv2
  have hsz : (its.toArray.size != its2.toArray.size) = true := by simpa [← l1, ← l2] using hne
  rcases ho with ⟨rfl, rfl⟩ | ⟨rfl, rfl⟩
  · exact SeqAt.RcAt.lists_lengths p.isList p2.isList hsz hu X.prog X.w X.xe _ ⟨.bl false, H, I, rfl, q⟩
  · exact SeqAt.RcNeAt.lists_lengths p.isList p2.isList hsz hu X.prog X.w X.xe _ ⟨.bl true, H, I, rfl, q⟩
theorem cmpR (hu : X.A.units + 200 < cLine) : ∀ o : Cp, OpR X (compareOp (cpA o)) (rC X.K o) := by
  intro o pins s σ H x y v u Q I rx ry ⟨S, d, d', r, sb, h1, h2, h3, h4⟩
  have ord : ∀ {f : Int → Int → Bool}, ltI f d d' = some r → ∃ i j, x = .int i ∧ y = .int j ∧ Q (.bl (f i j)) H := by
    intro f h
    unfold ltI at h
    split at h
    · cases h; exact ⟨_, _, h1.int, h2.int, h4⟩
    · cases h
  have eqq : ∀ {b : Bool}, eqD d d' = some b → (∃ a1 a2, d = .str a1 ∧ d' = .str a2 ∧ b = decide (a1 = a2)) ∨ (SeqAt.shaped d = true ∧ SeqAt.shaped d' = true ∧ b = d.eqv d') ∨ ∃ xs ys, d = .list xs ∧ d' = .list ys ∧ xs.length ≠ ys.length ∧ b = false := by
    intro b h
    unfold eqD at h
    split at h
    · cases h; exact .inl ⟨_, _, rfl, rfl, rfl⟩
    · split at h
      · rename_i hc
        obtain ⟨a1, a2⟩ := Bool.and_eq_true_iff.mp hc
        cases h; exact .inr (.inl ⟨a1, a2, rfl⟩)
      · unfold lenN at h
        split at h
        · split at h
          · cases h
          · rename_i hl; cases h; exact .inr (.inr ⟨_, _, rfl, rfl, hl, rfl⟩)
        · cases h
  have lens : ∀ {xs ys : List D} {op : CmpOp} {b : Bool}, d = .list xs → d' = .list ys → xs.length ≠ ys.length → (op = .Eq ∧ b = false ∨ op = .NotEq ∧ b = true) → Q (.bl b) H → wpAny (model X.prog X.w) X.A (compareOp op v u) (EP X pins σ Q) X.xe s := by
    intro xs ys op b e1 e2 hne ho q
    subst e1 e2
    obtain ⟨a, vs, rfl, a1, a2⟩ := h1.lst sb
    obtain ⟨b', ws, rfl, b1, b2⟩ := h2.lst sb
    cases (show v = Value.ref a from rx)
    cases (show u = Value.ref b' from ry)
    exact eq_lens (by omega) I a1 b1 (by rw [a2.length, b2.length]; exact hne) op b ho q
  have inn : ∀ {b : Bool} {op : CmpOp} {neg : Bool}, inD d d' = some b → (op = .In ∧ neg = false ∨ op = .NotIn ∧ neg = true) → Q (.bl (xor neg b)) H → wpAny (model X.prog X.w) X.A (compareOp op v u) (EP X pins σ Q) X.xe s := by
    intro b op neg h ho q
    unfold inD at h
    split at h
    · split at h
      · rename_i hs; cases h
        rcases ho with ⟨rfl, rfl⟩ | ⟨rfl, rfl⟩
        · exact op_in_sign pins s σ H x y v u Q I rx ry ⟨_, _, by rw [h1.str, str_one hs], h2.str, by simpa using q⟩
        · exact op_notIn_sign pins s σ H x y v u Q I rx ry ⟨_, _, by rw [h1.str, str_one hs], h2.str, by simpa using q⟩
      · cases h
    · split at h
      · rename_i hs; cases h
        obtain ⟨a1, a2⟩ := Bool.and_eq_true_iff.mp hs
        rcases ho with ⟨rfl, rfl⟩ | ⟨rfl, rfl⟩
        · exact op_inD (by omega) pins s σ H x y v u Q I rx ry ⟨_, _, h1.dp sb (sh_nd a1), h2.dp sb (sh_nd a2), a1, a2, by simpa using q⟩
        · exact op_notInD (by omega) pins s σ H x y v u Q I rx ry ⟨_, _, h1.dp sb (sh_nd a1), h2.dp sb (sh_nd a2), a1, a2, by simpa using q⟩
      · cases h
    · cases h
  cases o with
  | eq =>
    rcases eqq h3 with ⟨s1, s2, rfl, rfl, rfl⟩ | ⟨a1, a2, rfl⟩ | ⟨xs, ys, e1, e2, hne, rfl⟩
    · obtain rfl := h1.str; obtain rfl := h2.str
      exact op_eq pins s σ H _ _ v u Q I rx ry ⟨rfl, by simpa using h4⟩
    rotate_left
    · exact lens e1 e2 hne (.inl ⟨rfl, rfl⟩) h4
    exact op_eqD (by omega) pins s σ H x y v u Q I rx ry ⟨d, d', h1.dp sb (sh_nd a1), h2.dp sb (sh_nd a2), a1, a2, h4⟩
  | ne =>
    obtain ⟨b, hb, rfl⟩ := Option.map_eq_some_iff.mp h3
    rcases eqq hb with ⟨s1, s2, rfl, rfl, rfl⟩ | ⟨a1, a2, rfl⟩ | ⟨xs, ys, e1, e2, hne, rfl⟩
    · obtain rfl := h1.str; obtain rfl := h2.str
      exact op_ne pins s σ H _ _ v u Q I rx ry ⟨rfl, by simpa using h4⟩
    rotate_left
    · exact lens e1 e2 hne (.inr ⟨rfl, rfl⟩) h4
    exact op_neD (by omega) pins s σ H x y v u Q I rx ry ⟨d, d', h1.dp sb (sh_nd a1), h2.dp sb (sh_nd a2), a1, a2, h4⟩
  | lt => exact op_lt pins s σ H x y v u Q I rx ry (ord h3)
  | le => exact op_le pins s σ H x y v u Q I rx ry (ord h3)
  | gt => exact op_gt pins s σ H x y v u Q I rx ry (ord h3)
  | ge => exact op_ge pins s σ H x y v u Q I rx ry (ord h3)
  | inn => exact inn (neg := false) h3 (.inl ⟨rfl, rfl⟩) (by simpa using h4)
  | nin =>
    obtain ⟨b, hb, rfl⟩ := Option.map_eq_some_iff.mp h3
    exact inn (neg := true) hb (.inr ⟨rfl, rfl⟩) (by simpa using h4)

theorem ixOf_N (n : Nat) (i : Int) (k : Nat) (h : ixOf n i = some k) : ixN n i = some k := by
  unfold ixOf at h
  unfold ixN
  by_cases h0 : 0 ≤ i
  · rw [if_pos h0]
    have : ¬ i < 0 := by omega
    simp only [this, if_false] at h
    split at h
    · rename_i hc; cases h; rw [if_pos hc.2]
    · cases h
  · rw [if_neg h0]
    have : i < 0 := by omega
    simp only [this, if_true] at h
    split at h
    · rename_i hc; cases h; rw [if_pos (by omega)]
    · cases h
def rIx (K : Fg) : R2 := fun x y H Q => ∃ S d d' r, Rw K S H x d ∧ Rz K S H y d' ∧ ixD d d' = some r ∧ Dl K S H r Q
theorem ixR : IxR X (rIx X.K) := by
  intro value slice pins s σ H x y v u Q I rx ry ⟨S, d, d', r, h1, h2, h3, h4⟩ hp
  have sb := h4.sub
  unfold ixD at h3
  split at h3
  · obtain ⟨z, hz, rfl⟩ := Option.map_eq_some_iff.mp h3
    obtain ⟨j, hj, hz⟩ := Option.bind_eq_some_iff.mp hz
    obtain ⟨a, xs, rfl, a1, a2⟩ := h1.lst sb
    obtain ⟨w, w1, w2⟩ := a2.get hz
    exact ix_list value slice pins s σ H _ y v u Q I rx ry ⟨a, xs, _, w, rfl, h2.int, a1, by unfold atI; rw [ixOf_N _ _ j (by rw [a2.length]; exact hj)]; exact w1, h4.val w2⟩ hp
  · obtain ⟨z, hz, rfl⟩ := Option.map_eq_some_iff.mp h3
    obtain ⟨j, hj, hz⟩ := Option.bind_eq_some_iff.mp hz
    obtain ⟨a, xs, rfl, a1, a2⟩ := (h1.z (fun _ => by simp)).tup
    obtain ⟨w, w1, w2⟩ := a2.get hz
    exact ix_tup value slice pins s σ H _ y v u Q I rx ry ⟨a, xs, _, w, rfl, h2.int, sb.sqT a1, by unfold atI; rw [ixOf_N _ _ j (by rw [a2.length]; exact hj)]; exact w1, h4.val w2⟩ hp
  · split at h3
    · rename_i hl
      obtain ⟨z, hz, rfl⟩ := Option.map_eq_some_iff.mp h3
      obtain ⟨j, hj, hz⟩ := Option.bind_eq_some_iff.mp hz
      exact ix_str value slice pins s σ H x y v u Q I rx ry ⟨_, _, z, (h1.z (fun _ => by simp)).str, h2.int, hl, by unfold atI; rw [ixOf_N _ _ j hj]; exact hz, h4.val (.str _)⟩ hp
    · cases h3
  · cases h3
def rSlc (K : Fg) : V → Option Int → Option Int → Hp → VK → Prop := fun x lo hi H Q => ∃ S d r, Rz K S H x d ∧ slD d lo hi = some r ∧ Dl K S H r Q
theorem cutL_V {xs : List V} {lo hi : Option Int} : cutV xs lo hi = cutL xs lo hi := rfl
theorem RpA.cut {K : Fg} {S : Hp} {xs : List V} {ds : List D} (h : RpA K S xs ds) (lo hi : Option Int) : RpA K S (cutV xs lo hi) (cutL ds lo hi) := by
  unfold cutV cutL
  rw [h.length]
  exact (h.drop _).take _
/-- a slice: by the kind of the thing, told ahead -/
inductive Sk where
  | l | t | s
  deriving DecidableEq
theorem slR : SlR X (rSlc X.K) := by
  intro pins s σ H x v vl vu lo hi sl Q I rx h0 p1 p2 ⟨S, d, r, h1, h3, h4⟩
  have sb := h4.sub
  unfold slD at h3
  split at h3
  · cases h3
    obtain ⟨a, xs, rfl, a1, a2⟩ := h1.lst sb
    exact sl_list pins s σ H _ v vl vu lo hi sl Q I rx h0 p1 p2 ⟨a, xs, rfl, sqL_of a1, fun p hp => h4.lst hp (a2.cut lo hi)⟩
  · cases h3
    obtain ⟨a, xs, rfl, a1, a2⟩ := h1.tup
    refine sl_tupA pins s σ H _ v vl vu lo hi sl Q I rx h0 p1 p2 ⟨a, xs, rfl, sb.sqT a1, fun e => ?_, fun _ p hp => h4.tup hp (a2.cut lo hi)⟩
    have e' := e
    rw [a2.length] at e'
    unfold cutL at h4
    rw [e'.1, e'.2] at h4
    simp only [List.drop_zero, Nat.sub_zero, List.take_length] at h4
    exact h4.val (.tup a1 a2)
  · split at h3
    · rename_i hl; cases h3
      exact sl_str pins s σ H x v vl vu lo hi sl Q I rx h0 p1 p2 ⟨_, h1.str, hl, h4.val (.str _)⟩
    · cases h3
  · cases h3

def rBi (K : Fg) (f : Bi) : List V → Hp → VK → Prop := fun xs H Q => ∃ S ds r, Paired (Rw K S H) xs ds ∧ biD f ds = some r ∧ Dl K S H r Q
theorem pair1 {F : V → D → Prop} {xs : List V} {d : D} (h : Paired F xs [d]) : ∃ x, xs = [x] ∧ F x d := by
  cases h with
  | cons a t => cases t; exact ⟨_, rfl, a⟩
theorem pair2 {F : V → D → Prop} {xs : List V} {d d' : D} (h : Paired F xs [d, d']) : ∃ x y, xs = [x, y] ∧ F x d ∧ F y d' := by
  cases h with
  | cons a t => cases t with
    | cons b t => cases t; exact ⟨_, _, rfl, a, b⟩
def biV : Bi → Value
  | .len => .builtin "len" | .abs => .builtin "abs" | .int => .type "int" | .max => .builtin "max" | .min => .builtin "min" | .sum => .builtin "sum" | .sorted => .builtin "sorted"
  | .list => .type "list" | .tuple => .type "tuple" | .repr => .builtin "repr" | .str => .type "str" | .all => .builtin "all" | .any => .builtin "any"
theorem sortI_perm (ns : List Int) : (sortI ns).Perm ns := List.mergeSort_perm _ _
theorem sortI_up (ns : List Int) : (sortI ns).Pairwise (· ≤ ·) := by
  have h := List.pairwise_mergeSort (le := fun a b : Int => decide (a ≤ b)) (fun a b c h1 h2 => by simp at *; omega) (fun a b => by simp; omega) ns
  exact h.imp (fun h => by simpa using h)
theorem hasDict_of : ∀ {K : Fg} {S : Hp} {x : V} {d : D}, Rp K S x d → True := fun _ => trivial
theorem nd_show {d : D} (hs : showOk d = true) : d.hasDict = false := by
  simp only [showOk, Bool.and_eq_true, cd_iff, Bool.not_eq_true'] at hs
  exact hs.1.2
theorem reprR (hu : X.A.units + 200 < cLine) (hg : X.A.guards = some []) {pins : List (Addr × Obj)} {s : Shared} {σ : L2.St} {H : Hp} {x : V} {u : Value} {d : D} {Q : VK} (I : L2.Inv X pins σ H s) (rx : L2.RelV x u) (h : Dp X.K H x d) (hs : showOk d = true) (q : Q (.str d.shown) H) :
    wpAny (model X.prog X.w) X.A (call (.builtin "repr") [u]) (EP X pins σ Q) X.xe s := by
  simp only [showOk, Bool.and_eq_true, cd_iff, Bool.not_eq_true'] at hs
  obtain ⟨⟨⟨hs1, hs2⟩, hs3⟩, hs4⟩ := hs
  have viaR : ∀ a, x = .ref a → wpAny (model X.prog X.w) X.A (call (.builtin "repr") [u]) (EP X pins σ Q) X.xe s := by
    intro a hx
    subst hx
    obtain ⟨as, r1⟩ := Dp.reads I d _ _ h rx
    cases rx
    refine repr_of_reads' r1 hs1 (fun z => by rw [hs3] at z; cases z) hg (by omega) (fun _ _ e => e) (fun h' w tk hk => ?_) hs2
    exact ⟨.str d.shown, H, I.kept hk, ⟨_, rfl⟩, q⟩
  cases h with
  | non => cases rx; exact PySem.P.repr_of_none ⟨.str _, H, I.tok _, ⟨_, rfl⟩, q⟩
  | bl b => cases rx; exact PySem.P.repr_of_bool ⟨.str _, H, I.tok _, ⟨_, rfl⟩, q⟩
  | int i =>
    obtain ⟨t, rfl⟩ := rx
    exact PySem.P.repr_of_int (by simpa [PyData.showable] using hs1) ⟨.str _, H, I.tok _, ⟨_, rfl⟩, q⟩
  | str z =>
    obtain ⟨t, rfl⟩ := rx
    exact PySem.P.repr_of_str ⟨.str _, H, I.tok _, ⟨_, rfl⟩, q⟩ (by simpa [PyData.shown] using hs2)
  | lst _ _ => exact viaR _ rfl
  | tup _ _ => exact viaR _ rfl
theorem biR (hc : X.calm = true) (hu : X.A.units + 200 < cLine) (hg : X.A.guards = some []) : ∀ f : Bi, CallR X (biV f) (rBi X.K f) := by
  intro f pins s σ H xs us Q I rx ⟨S, ds, r, h1, h3, h4⟩
  have sb := h4.sub
  unfold biD at h3
  split at h3
  · cases h3
    obtain ⟨x, rfl, hx⟩ := pair1 h1
    obtain ⟨a, ys, rfl, a1, a2⟩ := hx.lst sb
    exact call_len_seq pins s σ H _ us Q I rx ⟨a, ys, rfl, .inl a1, by rw [a2.length]; exact h4.val (.int _)⟩
  · cases h3
    obtain ⟨x, rfl, hx⟩ := pair1 h1
    obtain ⟨a, ys, rfl, a1, a2⟩ := (hx.z (fun _ => by simp)).tup
    exact call_len_seq pins s σ H _ us Q I rx ⟨a, ys, rfl, .inr (sb.sqT a1), by rw [a2.length]; exact h4.val (.int _)⟩
  · split at h3
    · rename_i hl; cases h3
      obtain ⟨x, rfl, hx⟩ := pair1 h1
      obtain rfl := (hx.z (fun _ => by simp)).str
      exact call_len_str pins s σ H _ us Q I rx ⟨_, rfl, hl, h4.val (.int _)⟩
    · cases h3
  · cases h3
    obtain ⟨x, rfl, hx⟩ := pair1 h1
    obtain rfl := (hx.z (fun _ => by simp)).int
    refine call_abs pins s σ H _ us Q I rx ⟨_, rfl, ?_⟩
    rename_i i
    have : (if i < 0 then -i else i) = (i.natAbs : Int) := by split <;> omega
    rw [this]; exact h4.val (.int _)
  · cases h3
    obtain ⟨x, rfl, hx⟩ := pair1 h1
    obtain rfl := (hx.z (fun _ => by simp)).int
    exact call_int1 pins s σ H _ us Q I rx (.inl ⟨_, rfl, h4.val (.int _)⟩)
  · cases h3
    obtain ⟨x, rfl, hx⟩ := pair1 h1
    obtain rfl := (hx.z (fun _ => by simp)).bool
    exact call_int1 pins s σ H _ us Q I rx (.inr ⟨_, rfl, h4.val (.int _)⟩)
  · split at h3
    · rename_i hl
      obtain ⟨n, hn, rfl⟩ := Option.map_eq_some_iff.mp h3
      obtain ⟨x, rfl, hx⟩ := pair1 h1
      obtain rfl := (hx.z (fun _ => by simp)).str
      exact call_int_str pins s σ H _ us Q I rx ⟨_, n, rfl, hn, hl, h4.val (.int _)⟩
    · cases h3
  · cases h3
    obtain ⟨x, y, rfl, hx, hy⟩ := pair2 h1
    obtain rfl := (hx.z (fun _ => by simp)).int
    obtain rfl := (hy.z (fun _ => by simp)).int
    rename_i i j
    refine call_max2 hc pins s σ H _ us Q I rx ⟨_, _, rfl, ?_⟩
    have : (if j > i then j else i) = max i j := by split <;> omega
    rw [this]; exact h4.val (.int _)
  · cases h3
    obtain ⟨x, y, rfl, hx, hy⟩ := pair2 h1
    obtain rfl := (hx.z (fun _ => by simp)).int
    obtain rfl := (hy.z (fun _ => by simp)).int
    rename_i i j
    refine call_min2 hc pins s σ H _ us Q I rx ⟨_, _, rfl, ?_⟩
    have : (if j < i then j else i) = min i j := by split <;> omega
    rw [this]; exact h4.val (.int _)
  · obtain ⟨ns, hn, h3⟩ := Option.bind_eq_some_iff.mp h3
    obtain ⟨m, hm, rfl⟩ := Option.map_eq_some_iff.mp h3
    obtain ⟨x, rfl, hx⟩ := pair1 h1
    obtain ⟨a, ys, rfl, a1, a2⟩ := hx.lst sb
    obtain rfl := a2.ints hn
    obtain ⟨m1, m2⟩ := List.max?_eq_some_iff.mp hm
    refine cr_max hc pins s σ H _ us Q I rx ⟨a, ns, rfl, a1, List.length_pos_of_mem m1, fun m' h5 h6 => ?_⟩
    have e : m' = m := Int.le_antisymm (m2 m' h5) (h6 m m1)
    subst e
    exact h4.val (.int _)
  · obtain ⟨ns, hn, h3⟩ := Option.bind_eq_some_iff.mp h3
    obtain ⟨m, hm, rfl⟩ := Option.map_eq_some_iff.mp h3
    obtain ⟨x, rfl, hx⟩ := pair1 h1
    obtain ⟨a, ys, rfl, a1, a2⟩ := hx.lst sb
    obtain rfl := a2.ints hn
    obtain ⟨m1, m2⟩ := List.min?_eq_some_iff.mp hm
    refine cr_min hc pins s σ H _ us Q I rx ⟨a, ns, rfl, a1, List.length_pos_of_mem m1, fun m' h5 h6 => ?_⟩
    have e : m' = m := Int.le_antisymm (h6 m m1) (m2 m' h5)
    subst e
    exact h4.val (.int _)
  · obtain ⟨ns, hn, rfl⟩ := Option.map_eq_some_iff.mp h3
    obtain ⟨x, rfl, hx⟩ := pair1 h1
    obtain ⟨a, ys, rfl, a1, a2⟩ := hx.lst sb
    obtain rfl := a2.ints hn
    exact cr_sum hc pins s σ H _ us Q I rx ⟨a, ns, rfl, a1, h4.val (.int _)⟩
  · obtain ⟨ns, hn, rfl⟩ := Option.map_eq_some_iff.mp h3
    obtain ⟨x, rfl, hx⟩ := pair1 h1
    obtain ⟨a, ys, rfl, a1, a2⟩ := hx.lst sb
    obtain rfl := a2.ints hn
    refine cr_sortedI pins s σ H _ us Q I rx ⟨a, ns, rfl, a1, fun ns' p hp1 hp2 hp => ?_⟩
    have : ns' = sortI ns := PySem.W.ksm_same (hp1.trans (sortI_perm ns).symm) hp2 (sortI_up ns)
    subst this
    exact h4.lst hp (rpA_ints _)
  · cases h3
    obtain ⟨x, rfl, hx⟩ := pair1 h1
    obtain ⟨a, ys, rfl, a1, a2⟩ := hx.lst sb
    exact call_list_of pins s σ H _ us Q I rx ⟨a, ys, rfl, .inl a1, fun p hp => h4.lst hp a2⟩
  · cases h3
    obtain ⟨x, rfl, hx⟩ := pair1 h1
    obtain ⟨a, ys, rfl, a1, a2⟩ := (hx.z (fun _ => by simp)).tup
    exact call_list_of pins s σ H _ us Q I rx ⟨a, ys, rfl, .inr (sb.sqT a1), fun p hp => h4.lst hp a2⟩
  · cases h3
    obtain ⟨x, rfl, hx⟩ := pair1 h1
    obtain ⟨a, ys, rfl, a1, a2⟩ := hx.lst sb
    exact call_tuple_of pins s σ H _ us Q I rx ⟨a, ys, rfl, .inl ⟨a1, fun p hp => h4.tup hp a2⟩⟩
  · cases h3
    obtain ⟨x, rfl, hx⟩ := pair1 h1
    obtain ⟨a, ys, rfl, a1, a2⟩ := (hx.z (fun _ => by simp)).tup
    exact call_tuple_of pins s σ H _ us Q I rx ⟨a, ys, rfl, .inr ⟨sb.sqT a1, h4.val (.tup a1 a2)⟩⟩
  · rename_i d0
    split at h3
    · rename_i hs; cases h3
      obtain ⟨x, rfl, hx⟩ := pair1 h1
      cases rx with
      | cons r1 r2 =>
        cases r2
        have dp : Dp X.K H x d0 := by
          rcases hx with hx | ⟨a, ys, es, rfl, rfl, z1, z2⟩
          · exact hx.dp sb (nd_show hs)
          · exact .lst z1 ((z2.mono sb).dp (by simpa [PyData.hasDict] using nd_show hs))
        exact reprR hu hg I r1 dp hs (h4.val (.str _))
    · cases h3
  · split at h3
    · rename_i hs; cases h3
      obtain ⟨x, rfl, hx⟩ := pair1 h1
      obtain rfl := (hx.z (fun _ => by simp)).int
      exact call_str_int pins s σ H _ us Q I rx ⟨_, rfl, hs, h4.val (.str _)⟩
    · cases h3
  · obtain ⟨ns, hn, rfl⟩ := Option.map_eq_some_iff.mp h3
    obtain ⟨x, rfl, hx⟩ := pair1 h1
    obtain ⟨a, ys, rfl, a1, a2⟩ := hx.lst sb
    obtain rfl := a2.bools hn
    exact cr_all hc pins s σ H _ us Q I rx ⟨a, ns, rfl, a1, h4.val (.bl _)⟩
  · obtain ⟨ns, hn, rfl⟩ := Option.map_eq_some_iff.mp h3
    obtain ⟨x, rfl, hx⟩ := pair1 h1
    obtain ⟨a, ys, rfl, a1, a2⟩ := hx.lst sb
    obtain rfl := a2.bools hn
    exact cr_any hc pins s σ H _ us Q I rx ⟨a, ns, rfl, a1, h4.val (.bl _)⟩
  · cases h3
end
end Vc
end
section
set_option Elab.async false
set_option linter.all false
namespace Vc
open PySem PySem.Spec PyProof.Rows L2
variable [XrC]
/-- the tail of a class of the program over ValueError -/
def veTail : List Value := [.type "ValueError", .type "Exception", .type "BaseException", .type "object"]
structure XgT (K : Fg) : Prop where
  n1 : PySem.W.specialIn K (.builtin "object.__class__") "__get__" = some (some (.builtin "getset_descriptor.__get__"))
  n2 : PySem.W.takesIn K (.builtin "object.__class__") = some true
structure XcT (K : Fg) (C : Addr) : Prop where
  kC : PySem.W.keepIn K (.ref C) = true
  exC : PySem.W.subIn K (.ref C) (.type "BaseException") = some true
  tyC : PySem.W.typeIn K (.ref C) = some (.type "type")
  cl : PySem.W.isClsIn K C = true
  ga : PySem.W.findIn K (.ref C) "__getattribute__" = some (some (.builtin "BaseException.__getattribute__"))
  gg : PySem.W.findIn K (.ref C) "__getattr__" = some none
  dc : PySem.W.findIn K (.ref C) "__class__" = some (some (.builtin "object.__class__"))
  mo : PySem.W.mroIn K C (.type "object") = some true
  ve : PySem.W.subIn K (.ref C) (.type "ValueError") = some true
/-- __init__(self, f): self.f = f -/
def spI (C : Addr) (f : Str) : Sp := fun vs H Q _ => ∃ (a : Addr) (v : V), vs = [.ref a, v] ∧ H a = some (exo a C none) ∧ ∀ dx, H dx = none → dx ≠ a → Q .non (upd (upd H dx (exd dx [(f, v)])) a (exo a C (some dx)))
section
variable (P : Program) (w : World) (K : Fg) (mg : Str → Option Value) (base : Heap)
structure XEnt (x : Str) (xi : XI) (C : Addr) : Prop where
  gC : mg x = some (.ref C)
  t : XcT K C
  how : match xi.f with
    | none => PySem.W.excIn K C veTail "ValueError.__new__" = true
    | some f => ∃ (fI : Addr) (fd : FuncData), OexC K C ∧ PySem.W.findIn K (.ref C) "__init__" = some (some (.ref fI)) ∧ PySem.W.typeIn K (.ref fI) = some (.type "function") ∧ PySem.W.findIn K (.ref C) f = some none ∧ PySem.W.hasDictIn K C = true ∧
        FnOk P w K mg base (L2.CX P w) 1 fI fd ["self", f] (spI C f) ∧ Binds K fd ["self", f] []
structure XOk (xs : List (Str × XI)) : Prop where
  ent : ∀ x xi, xs.lookup x = some xi → ∃ C, XEnt P w K mg base x xi C
  sub : ∀ x xi y yi, xs.lookup x = some xi → xs.lookup y = some yi → ∀ C C', mg x = some (.ref C) → mg y = some (.ref C') → PySem.W.subIn K (.ref C) (.ref C') = some (subX xi.id yi.id)
  ids : ∀ x xi y yi, xs.lookup x = some xi → xs.lookup y = some yi → xi.id = yi.id → x = y
  g : xs ≠ [] → XgT K
end
/-- how an exception lies -/
def xrOf (K : Fg) (mg : Str → Option Value) (xs : List (Str × XI)) : Hp → Hp → Xn → Value → Option Addr → Prop := fun S H xn cls d =>
  ∃ x xi C, xs.lookup x = some xi ∧ xi.id = xn.c ∧ mg x = some (.ref C) ∧ cls = .ref C ∧ match xi.f, xn.f with
    | none, none => d = none
    | some f, some fd => ∃ dd v, d = some dd ∧ H dd = some (.xd [(f, v)]) ∧ Rp K S v fd
    | _, _ => False
theorem xr_mono {K : Fg} {mg : Str → Option Value} {xs : List (Str × XI)} {S H S' H' : Hp} {xn : Xn} {cls : Value} {d : Option Addr} (s : Sub S S') (k : ∀ b fs, H b = some (.xd fs) → H' b = some (.xd fs)) (h : xrOf K mg xs S H xn cls d) : xrOf K mg xs S' H' xn cls d := by
  obtain ⟨x, xi, C, h1, h2, h3, h4, h5⟩ := h
  refine ⟨x, xi, C, h1, h2, h3, h4, ?_⟩
  split at h5
  · exact h5
  · obtain ⟨dd, v, e1, e2, e3⟩ := h5
    exact ⟨dd, v, e1, k dd _ e2, e3.mono s⟩
  · exact h5.elim
@[reducible] def xrI (K : Fg) (mg : Str → Option Value) (xs : List (Str × XI)) : XrC := ⟨xrOf K mg xs, fun s k h => xr_mono s k h⟩
theorem xr_grow {K : Fg} {mg : Str → Option Value} {xs : List (Str × XI)} {S H S' H' : Hp} {σ σ' : L2.St} {e e' : En} {xn : Xn} {cls : Value} {d : Option Addr} (q : Rel K S H σ e) (g : Grow K S H σ e S' H' σ' e') (h : xrOf K mg xs S H xn cls d) : xrOf K mg xs S' H' xn cls d := by
  obtain ⟨x, xi, C, h1, h2, h3, h4, h5⟩ := h
  refine ⟨x, xi, C, h1, h2, h3, h4, ?_⟩
  split at h5
  · exact h5
  · obtain ⟨dd, v, e1, e2, e3⟩ := h5
    refine ⟨dd, v, e1, g.keep dd _ e2 fun w => ?_, e3.mono g.sub⟩
    obtain ⟨ys, z⟩ := q.own_at w
    rw [e2] at z
    cases z
  · exact h5.elim
theorem exm_of {K : Fg} {C C' : Addr} {b : Bool} (t : XcT K C') (h : PySem.W.subIn K (.ref C) (.ref C') = some b) : PySem.W.exmOne K (.ref C) (.ref C') = some b := by
  have e1 : (PySem.W.subIn K (.ref C') (.type "BaseException") == some true) = true := by rw [t.exC]; rfl
  have e2 : ((PySem.W.clsIn K C').isSome && PySem.W.typeIn K (.ref C') == some (.type "type")) = true := by
    have z : (PySem.W.clsIn K C').isSome = true := t.cl
    rw [z, t.tyC]; rfl
  unfold PySem.W.exmOne PySem.W.kitCls
  rw [if_pos e1]
  simp only [e2, if_true]
  exact h
theorem kit_of2 {K : Fg} {C C' : Addr} {b : Bool} (t : XcT K C') (h : PySem.W.subIn K (.ref C) (.ref C') = some b) (hs : C = C' → b = true) : PySem.W.kitOne K (.ref C) (.ref C') = some b := by
  have e2 : ((PySem.W.clsIn K C').isSome && PySem.W.typeIn K (.ref C') == some (.type "type")) = true := by
    have z : (PySem.W.clsIn K C').isSome = true := t.cl
    rw [z, t.tyC]; rfl
  unfold PySem.W.kitOne
  by_cases z : C = C'
  · subst z
    rw [if_pos (by simp), hs rfl]
  · rw [if_neg (by simpa using z)]
    unfold PySem.W.kitCls
    simp only [e2, if_true]
    exact h
theorem kit_ve {K : Fg} {C : Addr} (t : XcT K C) : PySem.W.kitOne K (.ref C) (.type "ValueError") = some true := by
  unfold PySem.W.kitOne
  rw [if_neg (by simp)]
  unfold PySem.W.kitCls
  simp only
  rw [if_pos (by decide +kernel)]
  exact t.ve
end Vc
end
section
set_option Elab.async false
set_option linter.all false
namespace Vc
open PySem PySem.Spec PyProof.Rows L2
variable [XrC]
section
variable {X : Cx}
def mtT : Mt → String
  | .index => "list" | .count => "list" | .join => "str" | .split => "str" | .startswith => "str" | .endswith => "str" | .partition => "str"
def mtN : Mt → Str
  | .index => "index" | .count => "count" | .join => "join" | .split => "split" | .startswith => "startswith" | .endswith => "endswith" | .partition => "partition"
def mtI : Mt → String
  | .index => "list.index" | .count => "list.count" | .join => "str.join" | .split => "str.split" | .startswith => "str.startswith" | .endswith => "str.endswith" | .partition => "str.partition"
def rMt (K : Fg) (m : Mt) : V → List V → Hp → VK → Prop := fun x xs H Q => ∃ S d ds r, Rz K S H x d ∧ Paired (Rz K S H) xs ds ∧ mtD m d ds = some r ∧ Dl K S H r Q
/-- l.count(x) where items are data of any depth -/
theorem mt_countD {X : Cx} (hu : X.A.units + 65 < cLine) : MtR X "list.count" (fun x xs H Q => ∃ (a : Addr) (y : V) (d : PyData) (ds : List PyData), x = V.ref a ∧ xs = [y] ∧ Dp X.K H (V.ref a) (.list ds) ∧ Dp X.K H y d ∧ SeqAt.shaped (.list ds) = true ∧ SeqAt.shaped d = true ∧ Q (.int (ds.countP fun z => z.eqv d : Nat)) H) := by
  intro pins s σ H x xs v us Q I rx rxs h
  obtain ⟨a, y, d, ds, rfl, rfl, hl, hy, sl, sd, q⟩ := h
  cases rx
  cases rxs with
  | cons ry rt =>
    rename_i uy ut
    cases rt
    obtain ⟨bs, r1⟩ := Dp.reads I d y uy hy ry
    have hxs : PyData.canLayAll0 ds = true := SeqAt.canLay_of_shaped sl
    have hroom : X.A.units + 1 + min (PyData.depthAll ds) d.depth < cLine := room_in_shaped sd hu
    cases hl with
    | lst hs ha =>
      obtain ⟨its, rv, ⟨⟨cls, dd, data, sls⟩, n, ho, hc, hdn, hdt⟩, hlen⟩ := I.list hs
      simp only at hc hdt
      subst hc hdt
      obtain ⟨as, h4⟩ := Dp.readsAll I ds _ its ha rv
      have hmap : its.map (SeqAt.readOf s.heap) = ds := SeqAt.readsAll_map ds its as hxs h4
      refine call_meets PySem.F.slot_list_count ⟨_, ho, rfl⟩ PySem.F.entry_list_count (PySem.F.args_list_count_2 _ _)
        (SeqAt.list_countAt a its.toArray n dd sls uy (fun u => PyData.eqv (SeqAt.readOf s.heap u) d)) ⟨ho, SeqAt.items_eqAt (vs := its.toArray) (show ReadsAll s.heap its.toArray.toList ds as from h4) r1 hxs (SeqAt.canLay_of_shaped sd) hroom, ?_⟩
      have e : its.toArray.toList.countP (fun u => PyData.eqv (SeqAt.readOf s.heap u) d) = ds.countP fun z => z.eqv d := by
        rw [← hmap, List.countP_map]
        rfl
      refine ⟨.int (ds.countP fun z => z.eqv d : Nat), H, I.tok _, ⟨s.toks, ?_⟩, q⟩
      show Value.int ((its.toArray.toList.countP (fun u => PyData.eqv (SeqAt.readOf s.heap u) d) : Nat) : Int) s.toks = _
      rw [e]
theorem mtR (hu : X.A.units + 200 < cLine) : ∀ m : Mt, MtR X (mtI m) (rMt X.K m) := by
  intro m pins s σ H x xs v us Q I rx rxs ⟨S, d, ds, r, h1, h2, h3, h4⟩
  have sb := h4.sub
  unfold mtD at h3
  split at h3
  · split at h3
    · rename_i hok
      obtain ⟨k1, k2⟩ := Bool.and_eq_true_iff.mp hok
      obtain ⟨j, hj, rfl⟩ := Option.map_eq_some_iff.mp h3
      obtain ⟨y, rfl, hy⟩ := pair1 h2
      obtain ⟨a, ys, rfl, a1, a2⟩ := h1.lst sb
      unfold idxOf at hj
      obtain ⟨hl, hz, hn⟩ := List.findIdx?_eq_some_iff_getElem.mp hj
      refine mt_indexD (by omega) pins s σ H _ _ v us Q I rx rxs ⟨a, y, _, _, j, _, rfl, rfl, .lst (sqL_of a1) ((a2.mono sb).dp (by simpa [PyData.hasDict] using sh_nd k2)), hy.dp sb (sh_nd k1), k2, k1, List.getElem?_eq_getElem hl, hz, fun m z hm hmz => ?_, h4.val (.int _)⟩
      obtain ⟨hl', e⟩ := List.getElem?_eq_some_iff.mp hmz
      have := hn m hm
      rw [e] at this
      simpa using this
    · cases h3
  · obtain ⟨ns, hn, rfl⟩ := Option.map_eq_some_iff.mp h3
    obtain ⟨y, rfl, hy⟩ := pair1 h2
    obtain ⟨a, ys, rfl, a1, a2⟩ := h1.lst sb
    obtain rfl := a2.ints hn
    obtain rfl := hy.int
    exact mt_lcount pins s σ H _ _ v us Q I rx rxs ⟨a, ns, _, rfl, rfl, sqL_of a1, h4.val (.int _)⟩
  · split at h3
    · rename_i k2
      cases h3
      obtain ⟨y, rfl, hy⟩ := pair1 h2
      obtain ⟨a, ys, rfl, a1, a2⟩ := h1.lst sb
      obtain rfl := hy.bool
      exact mt_countD (by omega) pins s σ H _ _ v us Q I rx rxs ⟨a, _, .bool _, _, rfl, rfl, .lst (sqL_of a1) ((a2.mono sb).dp (by simpa [PyData.hasDict] using sh_nd k2)), .bl _, k2, rfl, h4.val (.int _)⟩
    · cases h3
  · obtain ⟨ns, hn, h3⟩ := Option.bind_eq_some_iff.mp h3
    obtain ⟨y, rfl, hy⟩ := pair1 h2
    obtain rfl := h1.str
    split at h3
    · rename_i hl; cases h3
      obtain ⟨a, ys, rfl, a1, a2⟩ := hy.lst sb
      obtain rfl := a2.strs hn
      exact mt_join pins s σ H _ _ v us Q I rx rxs ⟨_, a, ns, rfl, rfl, .inl (sqL_of a1), hl, h4.val (.str _)⟩
    · cases h3
  · split at h3
    · rename_i hl; cases h3
      obtain ⟨y, rfl, hy⟩ := pair1 h2
      obtain rfl := h1.str
      obtain rfl := hy.str
      exact mt_split pins s σ H _ _ v us Q I rx rxs ⟨_, _, rfl, rfl, by simpa using hl.1, hl.2, fun p hp => h4.lst hp (rpA_strs _)⟩
    · cases h3
  · cases h3
    obtain ⟨y, rfl, hy⟩ := pair1 h2
    obtain rfl := h1.str
    obtain rfl := hy.str
    exact mt_startswith pins s σ H _ _ v us Q I rx rxs ⟨_, _, rfl, rfl, h4.val (.bl _)⟩
  · cases h3
    obtain ⟨y, rfl, hy⟩ := pair1 h2
    obtain rfl := h1.str
    obtain rfl := hy.str
    exact mt_endswith pins s σ H _ _ v us Q I rx rxs ⟨_, _, rfl, rfl, h4.val (.bl _)⟩
  · split at h3
    · rename_i hl; cases h3
      obtain ⟨y, rfl, hy⟩ := pair1 h2
      obtain rfl := h1.str
      obtain rfl := hy.str
      exact mt_partition pins s σ H _ _ v us Q I rx rxs ⟨_, _, rfl, rfl, by simpa using hl.1, hl.2, fun p hp => h4.tup hp (.cons (.str _) (.cons (.str _) (.cons (.str _) .nil)))⟩
    · cases h3
  · cases h3
def muN : Mu → Str
  | .append => "append" | .pop => "pop" | .popAt => "pop" | .insert => "insert" | .extend => "extend"
def muI : Mu → String
  | .append => "list.append" | .pop => "list.pop" | .popAt => "list.pop" | .insert => "list.insert" | .extend => "list.extend"
/-- a list is changed: S the plain data, d what is given, ds' the list behind it -/
def rMu (K : Fg) (m : Mu) : V → List V → Hp → VK → Prop := fun x vs H Q => ∃ S a xs es ds d ds', x = .ref a ∧ Sub S H ∧ H a = some (HO.lst xs) ∧ RpA K S xs es ∧ RpA K S vs ds ∧ muD m es ds = some (d, ds') ∧
  ∀ y xs', Rp K S y d → RpA K S xs' ds' → Q y (upd H a (.lst xs'))
theorem rpA1 {K : Fg} {S : Hp} {xs : List V} {d : D} (h : RpA K S xs [d]) : ∃ x, xs = [x] ∧ Rp K S x d := by
  cases h with
  | cons a t => cases t; exact ⟨_, rfl, a⟩
theorem rpA2 {K : Fg} {S : Hp} {xs : List V} {d d' : D} (h : RpA K S xs [d, d']) : ∃ x y, xs = [x, y] ∧ Rp K S x d ∧ Rp K S y d' := by
  cases h with
  | cons a t => cases t with
    | cons b t => cases t; exact ⟨_, _, rfl, a, b⟩
theorem ixOf_S (n : Nat) (i : Int) (k : Nat) (h : ixOf n i = some k) : seqIndex? i n = some k := by
  unfold ixOf at h
  unfold seqIndex?
  simpa using h
theorem muR : ∀ m : Mu, MtR X (muI m) (rMu X.K m) := by
  intro m pins s σ H x xs v us Q I rx rxs ⟨S, a, ys, es, ds, d, ds', hx, sb, h1, h2, h3, h4, k⟩
  subst hx
  unfold muD at h4
  split at h4
  · split at h4
    · rename_i hl; cases h4
      obtain ⟨y, rfl, hy⟩ := rpA1 h3
      exact mt_append pins s σ H _ _ v us Q I rx rxs ⟨a, ys, y, rfl, rfl, h1, by rw [h2.length]; exact hl, k _ _ .non (h2.append (.cons hy .nil))⟩
    · cases h4
  · obtain ⟨z, hz, e⟩ := Option.map_eq_some_iff.mp h4
    cases e
    cases h3
    obtain ⟨w, w1, w2⟩ := h2.get hz
    exact mt_pop pins s σ H _ _ v us Q I rx rxs ⟨a, ys, w, rfl, rfl, h1, by rw [h2.length]; exact w1, k _ _ w2 h2.dropLast⟩
  · split at h4
    · rename_i hl
      obtain ⟨j, hj, h4⟩ := Option.bind_eq_some_iff.mp h4
      obtain ⟨z, hz, e⟩ := Option.map_eq_some_iff.mp h4
      cases e
      obtain ⟨y, rfl, hy⟩ := rpA1 h3
      cases hy
      obtain ⟨w, w1, w2⟩ := h2.get hz
      exact mt_popAt pins s σ H _ _ v us Q I rx rxs ⟨a, ys, _, j, w, rfl, rfl, h1, (cd_iff.mp hl).1, (cd_iff.mp hl).2, by rw [h2.length]; exact ixOf_S _ _ _ hj, w1, k _ _ w2 (h2.eraseIdx _)⟩
    · cases h4
  · split at h4
    · rename_i hl; cases h4
      obtain ⟨y, z, rfl, hy, hz⟩ := rpA2 h3
      cases hy
      exact mt_insert pins s σ H _ _ v us Q I rx rxs ⟨a, ys, _, z, rfl, rfl, h1, by rw [h2.length]; exact (cd_iff.mp hl).1, (cd_iff.mp hl).2.1, (cd_iff.mp hl).2.2, k _ _ .non (((h2.take _).append (.cons hz .nil)).append (h2.drop _))⟩
    · cases h4
  · split at h4
    · rename_i hl; cases h4
      obtain ⟨y, rfl, hy⟩ := rpA1 h3
      cases hy with
      | lst b1 b2 => exact mt_extend pins s σ H _ _ v us Q I rx rxs ⟨a, _, ys, _, rfl, rfl, h1, sb _ _ b1, by rw [h2.length, b2.length]; exact hl, k _ _ .non (h2.append b2)⟩
    · cases h4
  · cases h4
end

/-- a def that takes objects: a function, a method or a property of a class -/
inductive QN where
  | fn (x : Str) | mt (cn m : Str) | pr (cn m : Str)
  deriving DecidableEq
/-- a scope, the slots' names, the slots that are lent, the names of the module's constants, of its defs, the defs' parameters, its exceptions' names -/
structure Cc where
  sc : Scope
  os : Scope
  N : List Str
  pr : List Nat
  con : List (Str × D)
  defs : List (Str × Nat)
  ps : Nat → List Str
  md : Nat → List Md
  xs : List (Str × XI)
  top : Bool
  /-- the attributes' slots: the slot, the object's slot, the attribute's name, the class' name -/
  gh : List (Nat × Nat × Str × Str) := []
  /-- the slots of objects that are made here, and of their attributes; the classes and their attributes; the defs that take objects, their attributes' slots -/
  nw : List Nat := []
  ci : List (Str × List Str) := []
  qd : List (QN × Nat) := []
  gq : Nat → List (Nat × Nat × Str × Str) := fun _ => []
def Cc.fl (c : Cc) (x : Str) : List Str := (c.ci.lookup x).getD []
mutual
def conEq : D → D → Bool
  | .int a, .int b => decide (a = b)
  | .str a, .str b => decide (a = b)
  | .tuple a, .tuple b => conEqs a b
  | _, _ => false
def conEqs : List D → List D → Bool
  | [], [] => true
  | a :: as, b :: bs => conEq a b && conEqs as bs
  | _, _ => false
end
mutual
theorem conEq_ok : ∀ {d e : D}, conEq d e = true → d = e
  | .int a, .int b, h => by rw [of_decide_eq_true (show decide (a = b) = true by simpa only [conEq] using h)]
  | .str a, .str b, h => by rw [of_decide_eq_true (show decide (a = b) = true by simpa only [conEq] using h)]
  | .tuple a, .tuple b, h => by rw [conEqs_ok (show conEqs a b = true by simpa only [conEq] using h)]
  | .none, e, h => by cases e <;> simp [conEq] at h
  | .bool _, e, h => by cases e <;> simp [conEq] at h
  | .list _, e, h => by cases e <;> simp [conEq] at h
  | .dict _, e, h => by cases e <;> simp [conEq] at h
  | .int _, .none, h | .int _, .bool _, h | .int _, .str _, h | .int _, .list _, h | .int _, .tuple _, h | .int _, .dict _, h => by simp [conEq] at h
  | .str _, .none, h | .str _, .bool _, h | .str _, .int _, h | .str _, .list _, h | .str _, .tuple _, h | .str _, .dict _, h => by simp [conEq] at h
  | .tuple _, .none, h | .tuple _, .bool _, h | .tuple _, .int _, h | .tuple _, .list _, h | .tuple _, .str _, h | .tuple _, .dict _, h => by simp [conEq] at h
theorem conEqs_ok : ∀ {d e : List D}, conEqs d e = true → d = e
  | [], [], _ => rfl
  | a :: as, b :: bs, h => by
    obtain ⟨h1, h2⟩ := Bool.and_eq_true_iff.mp (show (conEq a b && conEqs as bs) = true by simpa only [conEqs] using h)
    rw [conEq_ok h1, conEqs_ok h2]
  | [], _ :: _, h | _ :: _, [], h => by simp [conEqs] at h
end
def visB (sc : Scope) (x : Str) : Bool := sc.names.lookup x == some .local || (sc.names.lookup x == some .cell || sc.names.lookup x == some .free)
def locB (sc : Scope) (x : Str) : Bool := sc.names.lookup x == some .local || sc.names.lookup x == some .cell
def glB (sc : Scope) (x : Str) : Bool := sc.names.lookup x == some .globalImplicit && (x != ("__debug__" : Str) && x != ("__name__" : Str))
theorem visB_ok {sc : Scope} {x : Str} (h : visB sc x = true) : Vis sc x := by
  simp only [visB, Bool.or_eq_true, beq_iff_eq] at h
  exact h
theorem locB_ok {sc : Scope} {x : Str} (h : locB sc x = true) : Loc sc x := by
  simp only [locB, Bool.or_eq_true, beq_iff_eq] at h
  exact h
/-- the built-in names that must stand as they are -/
def bltNames : List Str := ["len", "abs", "int", "max", "min", "sum", "sorted", "list", "tuple", "repr", "str", "all", "any", "range", "isinstance", "enumerate", "zip", "bool", "reversed", "ValueError"]
/-- what is asked of a call: the arguments lie as slots do -/
def slOf : AV → Sl
  | .v d => .v d | .m ds => .o ds | .f ds => .f ds | .q => .no
def ResR (K : Fg) (H S' H' : Hp) (vs : List V) (as : List AV) : CV → V → Prop
  | .v d, x => Rp K S' x d
  | .p j, x => vs[j]? = some x ∧ ∃ ds, as[j]? = some (.m ds)
  | .o ds, x => ∃ (a : Addr) (xs : List V), x = V.ref a ∧ H' a = some (HO.lst xs) ∧ S' a = none ∧ RpA K S' xs ds ∧ H a = none
def rCall (K : Fg) (xr : Hp → Hp → Xn → Value → Option Addr → Prop) (Φ : Ph) (f : Nat) (vs : List V) (H : Hp) (Q : VK) (E : XK) : Prop :=
  ∃ S as, Rel K S H (vs.map some) (as.map slOf) ∧ match Φ f as with
    | .st => False
    | .rt r fs => ∀ x S' H', Grow K S H (vs.map some) (as.map slOf) S' H' (vs.map some) fs → ResR K H S' H' vs as r x → Q x H'
    | .ex xn fs => ∀ cls d S' H', Grow K S H (vs.map some) (as.map slOf) S' H' (vs.map some) fs → xr S' H' xn cls d → E cls d H'
/-- .. to which objects are handed: gs their attributes' values -/
def rCallQ (K : Fg) (mg : Str → Option Value) (fl : Str → List Str) (xr : Hp → Hp → Xn → Value → Option Addr → Prop) (gq : List (Nat × Nat × Str × Str)) (Φ : Ph) (f : Nat) (vs : List V) (H : Hp) (Q : VK) (E : XK) : Prop :=
  ∃ S as gs, gs.length = gq.length ∧ LkV mg fl gq ((vs ++ gs).map some) S ∧ Rel K S H ((vs ++ gs).map some) (as.map slOf) ∧ match Φ f as with
    | .st => False
    | .rt r fs => ∀ x S' H', Grow K S H ((vs ++ gs).map some) (as.map slOf) S' H' ((vs ++ gs).map some) fs → ResR K H S' H' (vs ++ gs) as r x → Q x H'
    | .ex xn fs => ∀ cls d S' H', Grow K S H ((vs ++ gs).map some) (as.map slOf) S' H' ((vs ++ gs).map some) fs → xr S' H' xn cls d → E cls d H'
/-- how keywords come to parameters: the first by place, then those of the names -/
def kwSel {α : Type} (ps : List Str) (us : List α) (kw : List (Str × α)) : Option (List α) := ((ps.drop us.length).mapM fun p => kw.lookup p).map (us ++ ·)
/-- a def of the module keeps what Φ says of it -/
structure FnG (P : Program) (w : World) (K : Fg) (mg : Str → Option Value) (base : Heap) (xr : Hp → Hp → Xn → Value → Option Addr → Prop) (Φ : Ph) (k : Nat) (ps : List Str) (f : Nat) (fa : Addr) : Prop where
  keep : PySem.W.keepIn K (.ref fa) = true
  run : ∀ (A : Around) (outer : List Env) (s : Shared) (H : Hp) (us us' : List Value) (kw : List (Str × Value)) (vs : List V) (Q : VK) (E : XK), Room k A → A.guards = some [] → Env0 P w K mg base A outer s H →
    (kw.map (·.1)).Nodup → (∀ y ∈ kw.map (·.1), y ∈ ps.drop us.length) → us'.length = ps.length → kwSel ps us kw = some us' → Vals vs us' → rCall K xr Φ f vs H Q E →
    codeAny (model P w) A (.call (.ref fa) ⟨us, kw⟩) (CR (L2.CX P w) outer P w H s Q E) s
/-- .. one that takes objects -/
structure FnQ (P : Program) (w : World) (K : Fg) (mg : Str → Option Value) (base : Heap) (xr : Hp → Hp → Xn → Value → Option Addr → Prop) (fl : Str → List Str) (Φ : Ph) (k : Nat) (gq : List (Nat × Nat × Str × Str)) (ps : List Str) (f : Nat) (fa : Addr) : Prop where
  keep : PySem.W.keepIn K (.ref fa) = true
  run : ∀ (A : Around) (outer : List Env) (s : Shared) (H : Hp) (us us' : List Value) (kw : List (Str × Value)) (vs : List V) (Q : VK) (E : XK), Room k A → A.guards = some [] → Env0 P w K mg base A outer s H →
    (kw.map (·.1)).Nodup → (∀ y ∈ kw.map (·.1), y ∈ ps.drop us.length) → us'.length = ps.length → kwSel ps us kw = some us' → Vals vs us' → rCallQ K mg fl xr gq Φ f vs H Q E →
    codeAny (model P w) A (.call (.ref fa) ⟨us, kw⟩) (CR (L2.CX P w) outer P w H s Q E) s
/-- where such a def lies -/
def QAt (K : Fg) (mg : Str → Option Value) : QN → Addr → Prop
  | .fn x, fa => mg x = some (.ref fa)
  | .mt cn m, fa => ∃ C, mg cn = some (.ref C) ∧ Cls K C ∧ Meth K C m fa
  | .pr cn m, fa => ∃ C p, mg cn = some (.ref C) ∧ Cls K C ∧ PropOf K C m p fa
/-- C(): a new object whose attributes are two empty lists -/
def NewAt (H : Hp) (C : Addr) (f1 f2 : Str) (x : Addr) (p1 p2 : Addr) (H2 : Hp) : Prop := ∃ dx, H x = none ∧ H p1 = none ∧ H p2 = none ∧ p1 ≠ p2 ∧ H2 x = some (.ins C dx [(f1, .ref p1), (f2, .ref p2)]) ∧ H2 p1 = some (.lst []) ∧ H2 p2 = some (.lst []) ∧ ∀ a o, H a = some o → H2 a = some o
structure ClA (P : Program) (w : World) (K : Fg) (mg : Str → Option Value) (base : Heap) (k : Nat) (cn : Str) (fs : List Str) (C : Addr) : Prop where
  at_ : mg cn = some (.ref C)
  cl : Cls K C
  na : ∀ f ∈ fs, NoAttr K C f
  kp : PySem.W.keepIn K (.ref C) = true
  nw : ∃ f1 f2, fs = [f1, f2] ∧ ∀ X : Cx, X.prog = P → X.w = w → X.K = K → X.mg = mg → X.base = base → Room k X.A → ∀ (pins : List (Addr × Obj)) (s : Shared) (σ : L2.St) (H : Hp) (Q : VK), L2.Inv X pins σ H s → (∀ x p1 p2 H2, NewAt H C f1 f2 x p1 p2 H2 → Q (.ref x) H2) →
    wpAny (model X.prog X.w) X.A (call (.ref C) [] []) (EP X pins σ Q) X.xe s
/-- a dict of the module with text keys; a constant of the module -/
def KdAt (K : Fg) (w : World) (mg : Str → Option Value) (x : Str) (es : List (Str × D)) : Prop := ∃ a en n, mg x = some (.ref a) ∧ KDict K w a en n ∧ ∀ z, match es.lookup z with
  | none => PySem.W.nsIn K a z = some none
  | some d => ∃ u v, PySem.W.nsIn K a z = some (some u) ∧ L2.RelV v u ∧ ∀ S, Rp K S v d
def kdKey : D × D → Option (Str × D)
  | (.str s, d) => some (s, d)
  | _ => none
def kdOf : D → Option (List (Str × D))
  | .dict kvs => some (kvs.filterMap kdKey)
  | _ => none
def ConAt (K : Fg) (w : World) (mg : Str → Option Value) (x : Str) (d : D) : Prop := match kdOf d with
  | some es => KdAt K w mg x es
  | none => ∃ v u, mg x = some u ∧ L2.RelV v u ∧ ∀ S, Rp K S v d
theorem conEq_kd {d e : D} (h : conEq d e = true) : kdOf d = none := by
  cases d <;> first | rfl | (simp [conEq] at h)
def kdsEq : List (Str × D) → List (Str × D) → Bool
  | [], [] => true
  | (x, d) :: r, (y, e) :: s => decide (x = y) && (conEq d e && kdsEq r s)
  | _, _ => false
theorem kdsEq_ok : ∀ {a b : List (Str × D)}, kdsEq a b = true → a = b
  | [], [], _ => rfl
  | (x, d) :: r, (y, e) :: s, h => by
    simp only [kdsEq, Bool.and_eq_true, decide_eq_true_eq] at h
    rw [h.1, conEq_ok h.2.1, kdsEq_ok h.2.2]
  | [], _ :: _, h => by simp [kdsEq] at h
  | _ :: _, [], h => by simp [kdsEq] at h
structure Fit (X : Cx) (c : Cc) (G : Gx) (Φ : Ph) : Prop where
  sc : X.env.scope = c.sc
  N : X.N = c.N
  nd : c.N.Nodup
  K : X.K = G.K
  calm : X.calm = true
  tk : Takes X G.W
  un : X.A.units + 200 < cLine
  gd : X.A.guards = some []
  blt : ∀ x ∈ bltNames, X.mg x = none
  con : ∀ x d, c.con.lookup x = some d → ConAt X.K X.w X.mg x d
  fn : ∀ x f, c.defs.lookup x = some f → ∃ fa k, X.mg x = some (.ref fa) ∧ Room k X.A ∧ FnG X.prog X.w X.K X.mg X.base G.xr Φ k (c.ps f) f fa
  loc : ∀ x, Loc c.sc x → Loc c.os x → X.fn x = true ∨ c.sc.names.lookup x = some .local
  own : PassesOwn (model X.prog X.w) X.A X.env X.xe
  xs : XOk X.prog X.w X.K X.mg X.base c.xs
  xr : G.xr = xrOf X.K X.mg c.xs
  rm : Room 2 X.A
  top : c.top = true → X.stack = X.env :: X.outer ∧ X.env.frame = some X.env.locals
  xc : XrC.xr = G.xr
  gm : G.mg = X.mg
  gh : G.gh = c.gh
  gp : ∀ q ∈ c.gh, q.1 ∈ c.pr ∧ q.2.1 ∈ c.pr
  nw : G.nw = c.nw
  fl : G.fl = c.fl
  ci : ∀ cn fs, c.ci.lookup cn = some fs → ∃ C k, Room k X.A ∧ ClA X.prog X.w X.K X.mg X.base k cn fs C
  fq : ∀ n f, (n, f) ∈ c.qd → ∃ fa k, QAt X.K X.mg n fa ∧ Room (k + 1) X.A ∧ FnQ X.prog X.w X.K X.mg X.base G.xr G.fl Φ k (c.gq f) (c.ps f) f fa
theorem Fit.out {X : Cx} {c : Cc} {G : Gx} {Φ : Ph} (F : Fit X c G Φ) {i : Nat} (h : i ∉ c.pr) : i ∉ G.gh.map (·.1) ∧ i ∉ G.gh.map (·.2.1) := by
  rw [F.gh]
  exact ⟨fun w => by
    obtain ⟨q, hq, rfl⟩ := List.mem_map.mp w
    exact h (F.gp q hq).1, fun w => by
    obtain ⟨q, hq, rfl⟩ := List.mem_map.mp w
    exact h (F.gp q hq).2⟩
def ghB (c : Cc) (i : Nat) : Bool := !((c.gh.map (·.1)).contains i)
theorem Fit.ghB {X : Cx} {c : Cc} {G : Gx} {Φ : Ph} (F : Fit X c G Φ) {i : Nat} (h : Vc.ghB c i = true) : i ∉ G.gh.map (·.1) := by
  rw [F.gh]
  unfold Vc.ghB at h
  simpa using h
/-- a call within a body -/
theorem Fit.call {X : Cx} {c : Cc} {G : Gx} {Φ : Ph} (F : Fit X c G Φ) {x : Str} {f : Nat} (hx : c.defs.lookup x = some f) : ∃ fa, X.mg x = some (.ref fa) ∧ PySem.W.keepIn X.K (.ref fa) = true ∧
    ∀ (pins : List (Addr × Obj)) (s : Shared) (σ : L2.St) (H : Hp) (us us' : List Value) (kw : List (Str × Value)) (vs : List V) (Q : VK), L2.Inv X pins σ H s → (kw.map (·.1)).Nodup → (∀ y ∈ kw.map (·.1), y ∈ (c.ps f).drop us.length) →
      us'.length = (c.ps f).length → kwSel (c.ps f) us kw = some us' → Vals vs us' → rCall G.K G.xr Φ f vs H Q (fun cls d H' => G.W cls d σ H') →
      wpAny (model X.prog X.w) X.A (call (.ref fa) us kw) (EP X pins σ Q) X.xe s := by
  obtain ⟨fa, k, h1, h2, h3⟩ := F.fn x f hx
  refine ⟨fa, h1, h3.keep, fun pins s σ H us us' kw vs Q I n1 n2 n3 n4 r q => ?_⟩
  rw [← F.K] at q
  refine wpAny_call (codeAny_mono (h3.run X.A X.stack s H us us' kw vs Q _ h2 F.gd I.env0 n1 n2 n3 n4 r q) fun r s' hq => ?_)
  cases r with
  | error e => exact F.tk e s' (XE.of_call I (fun _ _ _ h => h) hq)
  | ok fl =>
    cases fl with
    | ret u => exact I.after hq
    | next => exact False.elim hq
    | brk => exact False.elim hq
    | cont => exact False.elim hq

theorem PEwk {X : Cx} {e : Expr} {t t' : TE} (h : PE X e t) (k : ∀ σ H Q, t' σ H Q → t σ H Q) : PE X e t' := ⟨fun pins s σ H Q I q => h.run pins s σ H Q I (k σ H Q q)⟩
theorem PTwk {X : Cx} {e : Expr} {t t' : TT} (h : PT X e t) (k : ∀ σ H Q, t' σ H Q → t σ H Q) : PT X e t' := ⟨fun pins s σ H Q I q => h.run pins s σ H Q I (k σ H Q q)⟩
theorem PAwk {X : Cx} {e : List Expr} {t t' : TA} (h : PA X e t) (k : ∀ σ H Q, t' σ H Q → t σ H Q) : PA X e t' := ⟨fun pos pins s σ H Q I q => h.run pos pins s σ H Q I (k σ H Q q)⟩
section
variable {X : Cx} {G : Gx} {a b c : Expr} {pos : Pos} {f g h : En → R}
/-- a reading of a constant -/
theorem tE_val {t : TE} {d : D} {v : V} (hp : ∀ S, Rp G.K S v d) (ht : ∀ σ H Q, Q v H → t σ H Q) (σ : L2.St) (H : Hp) (Q : VK) (q : tE G (fun e => .ok (.v d) e) σ H Q) : t σ H Q := by
  obtain ⟨τ, hτ, S, e, rel, lnk, k⟩ := q
  exact ht σ H Q (k v S H rel.grow (hp S) trivial)
theorem s_op (hK : X.K = G.K) (o : Op2) (ha : PE X a (tE G f)) (hb : PE X b (tE G g)) : PE X (.BinOp a (opA o) b pos) (tE G fun e => (f e).bd fun x e1 => (g e1).bd fun y e2 => match res e2 x, res e2 y with
    | some d, some d' => ofO e2 (op2 o d d')
    | _, _ => .st) := by
  refine PEwk (pe_op (opR o) ha hb) fun σ H Q ⟨τ, hτ, S, e, rel, lnk, k⟩ => ⟨τ, hτ, S, e, rel, lnk, k.bd fun ra e1 x S1 H1 _ g1 p1 _ k1 => ⟨τ, hτ, S1, e1, g1.rel, lnk.mono g1.sub, (k1.step g1).bd fun rb e2 y S2 H2 _ g2 p2 _ k2 => ?_⟩⟩
  split at k2
  · rename_i d d' h1 h2
    cases hr : op2 o d d' with
    | none => rw [hr] at k2; exact k2.elim
    | some r =>
      rw [hr] at k2
      rw [hK]
      exact ⟨S2, d, d', r, res_ok g2.rel (p1.grow g2) h1, res_ok g2.rel p2 h2, hr, Dl.of g2 k2⟩
  · exact k2.elim
theorem s_neg (ha : PE X a (tE G f)) : PE X (.UnaryOp .USub a pos) (tE G fun e => (f e).bd fun x e1 => match res e1 x with
    | some (.int i) => .ok (.v (.int (-i))) e1
    | _ => .st) := by
  refine PEwk (pe_un un_neg ha) fun σ H Q ⟨τ, hτ, S, e, rel, lnk, k⟩ => ⟨τ, hτ, S, e, rel, lnk, k.bd fun ra e1 x S1 H1 _ g1 p1 _ k1 => ?_⟩
  split at k1
  · rename_i i h1
    exact ⟨i, (res_ok g1.rel p1 h1).int, k1 _ S1 H1 g1 (.int _) trivial⟩
  · exact k1.elim
noncomputable def semCmp (f g : En → R) (o : Cp) (e : En) : R := (f e).bd fun x e1 => (g e1).bd fun y e2 => match res e2 x, res e2 y with
    | some d, some d' => ofB e2 (cmpD o d d')
    | _, _ => .st
theorem s_cmp_read (hK : X.K = G.K) (o : Cp) (σ : L2.St) (H : Hp) (Q : VK) (q : tE G (semCmp f g o) σ H Q) : tOp (rC X.K o) (tE G f) (tE G g) σ H Q := by
  obtain ⟨τ, hτ, S, e, rel, lnk, k⟩ := q
  refine ⟨τ, hτ, S, e, rel, lnk, k.bd fun ra e1 x S1 H1 _ g1 p1 _ k1 => ⟨τ, hτ, S1, e1, g1.rel, lnk.mono g1.sub, (k1.step g1).bd fun rb e2 y S2 H2 _ g2 p2 _ k2 => ?_⟩⟩
  split at k2
  · rename_i d d' h1 h2
    cases hr : cmpD o d d' with
    | none => rw [hr] at k2; exact k2.elim
    | some r =>
      rw [hr] at k2
      rw [hK]
      exact ⟨S2, d, d', r, g2.rel.sub, res_ok g2.rel (p1.grow g2) h1, res_ok g2.rel p2 h2, hr, k2 _ S2 H2 g2 (.bl _) trivial⟩
  · exact k2.elim
/-- a test by a value that is a bool -/
theorem asT_read {t : En → R} (σ : L2.St) (H : Hp) (Q : Bool → Hp → Prop) (q : tT G (fun e => asT (t e)) σ H Q) : tE G t σ H (fun x H1 => ∃ b, x = .bl b ∧ Q b H1) := by
  obtain ⟨τ, hτ, S, e, rel, lnk, k⟩ := q
  refine ⟨τ, hτ, S, e, rel, lnk, ?_⟩
  have k : PB G S H τ e Q (asT (t e)) := k
  cases ht : t e with
  | st => rw [ht] at k; exact k
  | ex x e1 => rw [ht] at k; exact k
  | ok r e1 =>
    rw [ht] at k
    intro x S' H' g1 p1 f1
    unfold asT at k
    split at k
    · rename_i b e2 hb
      cases hb
      cases p1
      exact ⟨b, rfl, k S' H' g1⟩
    · rename_i hb; cases hb
    · exact k.elim
theorem s_cmp (hK : X.K = G.K) (hu : X.A.units + 200 < cLine) (o : Cp) (hm : behindInMarks (cpA o) b = false) (ha : PE X a (tE G f)) (hb : PE X b (tE G g)) : PE X (.Compare a [cpA o] [b] pos) (tE G (semCmp f g o)) :=
  PEwk (pe_cmpR (cmpR hu o) ha hb hm) fun σ H Q q => s_cmp_read hK o σ H Q q
theorem s_cmpT (hK : X.K = G.K) (hu : X.A.units + 200 < cLine) (o : Cp) (hm : behindInMarks (cpA o) b = false) (ha : PE X a (tE G f)) (hb : PE X b (tE G g)) : PT X (.Compare a [cpA o] [b] pos) (tT G fun e => asT (semCmp f g o e)) :=
  PTwk (pt_cmpR (cmpR hu o) ha hb hm) fun σ H Q q => s_cmp_read hK o σ H _ (asT_read σ H Q q)
end
end Vc
end
section
set_option Elab.async false
set_option linter.all false
namespace Vc
open PySem PySem.Spec PyProof.Rows L2
variable [XrC]
section
variable {X : Cx} {G : Gx} {a b c : Expr} {es : List Expr} {pos : Pos} {f g h : En → R}

/-- an expression that no special form is -/
def plainX : Expr → Bool
  | .Starred .. => false
  | .Slice .. => false
  | .Set .. => false
  | .GeneratorExp .. => false
  | _ => true
/-- .. as the base of a method -/
def plainB : Expr → Bool
  | .Starred .. => false
  | .Slice .. => false
  | .Set .. => false
  | .Call (.Name _ _) [] [] _ => false
  | .GeneratorExp .. => false
  | _ => true
theorem star_cons (h : plainX a = true) {env : Env} : starEach (a :: es) env = (false, eval a env) :: starEach es env := by
  cases a <;> first | rfl | (simp [plainX] at h)
theorem plain_ix (h : plainX a = true) : PlainIx a := by
  intro o i
  cases a <;> first | rfl | (simp [plainX] at h)
theorem plain_set (h : plainX a = true) {env : Env} {x : Value} : foldedSetIterable a env x = pure x := by
  cases a <;> first | rfl | (simp [plainX] at h)
theorem plain_mark (h : plainX a = true) {op : CmpOp} : behindInMarks op a = false := by
  cases a <;> first | rfl | (simp [plainX] at h)
theorem plain_base (h : plainB a = true) {env : Env} {n : Str} : attributeBase a n env (eval a env) = eval a env := by
  unfold attributeBase
  split
  · simp [plainB] at h
  · rfl
theorem star_flags : ∀ {es : List Expr}, es.all plainX = true → ∀ {env : Env} {p : Pos}, (backTo p (starEach es env)).any (·.1) = false
  | [], _, _, _ => rfl
  | a :: es, h, env, p => by
    obtain ⟨h1, h2⟩ := Bool.and_eq_true_iff.mp (show (plainX a && es.all plainX) = true from h)
    rw [star_cons h1]
    show (false || (backTo p (starEach es env)).any (·.1)) = false
    rw [star_flags h2]; rfl
theorem star_len : ∀ {es : List Expr}, es.all plainX = true → ∀ {env : Env} {p : Pos}, ((backTo p (starEach es env)).all fun x => !x.1) = true
  | [], _, _, _ => rfl
  | a :: es, h, env, p => by
    obtain ⟨h1, h2⟩ := Bool.and_eq_true_iff.mp (show (plainX a && es.all plainX) = true from h)
    rw [star_cons h1]
    show (true && (backTo p (starEach es env)).all fun x => !x.1) = true
    rw [star_len h2]; rfl

noncomputable def semCons (f : En → R) (g : En → RL) (e : En) : RL := match f e with
  | .st => .st
  | .ex x e1 => .ex x e1
  | .ok x e1 => match g e1 with
    | .st => .st
    | .ex x e2 => .ex x e2
    | .ok xs e2 => .ok (x :: xs) e2
theorem s_nil : PA X [] (tL G fun e => .ok [] e) := PAwk pa_nil fun σ H Q ⟨τ, hτ, S, e, rel, lnk, k⟩ => k [] S H rel.grow .nil .nil
theorem s_cons {gl : En → RL} (hp : plainX a = true) (ha : PE X a (tE G f)) (hr : PA X es (tL G gl)) : PA X (a :: es) (tL G (semCons f gl)) := by
  refine PAwk (pa_cons ha hr (star_cons hp)) fun σ H Q ⟨τ, hτ, S, e, rel, lnk, k⟩ => ⟨τ, hτ, S, e, rel, lnk, ?_⟩
  unfold semCons at k
  cases hf : f e with
  | st => rw [hf] at k; exact k
  | ex x e1 => rw [hf] at k; exact k
  | ok r e1 =>
    rw [hf] at k
    intro x S1 H1 g1 p1 f1
    refine ⟨τ, hτ, S1, e1, g1.rel, lnk.mono g1.sub, ?_⟩
    cases hg : gl e1 with
    | st => simp only [hg] at k; exact k
    | ex x e2 => simp only [hg] at k; exact PX.step g1 k
    | ok rs e2 =>
      simp only [hg] at k
      intro xs S2 H2 g2 p2 f2
      exact k (x :: xs) S2 H2 (g1.trans g2) (.cons (p1.grow g2) (fun ds hr => by subst hr; exact noO_of p2 f2 p1) p2) (.cons f1 (f2.back g1))

theorem s_var {c : Cc} {Φ : Ph} (F : Fit X c G Φ) {i : Nat} {x : Str} (hN : c.N[i]? = some x) (hgi : ghB c i = true) (hv : visB c.sc x = true) (hd : (x == ("__debug__" : Str)) = false) (hcd : (x == ("__classdict__" : Str)) = false) :
    PE X (.Name x pos) (tE G fun e => match e[i]? with
    | some (.v d) => .ok (.v d) e
    | some (.o _) => .ok (.b i) e
    | some (.f _) => .ok (.b i) e
    | _ => .st) := by
  refine PEwk (pe_var (i := i) (by rw [F.N]; exact hN) (by rw [F.sc]; exact visB_ok hv) hd hcd) fun σ H Q ⟨τ, hτ, S, e, rel, lnk, k⟩ => ?_
  have hng := F.ghB hgi
  simp only at k
  split at k
  · rename_i d hi
    obtain ⟨v, h1, h2⟩ := rel.val i d hi
    exact ⟨v, at_base hτ hng h1, k v S H rel.grow h2 trivial⟩
  · rename_i ds hi
    obtain ⟨a, xs, h1, _⟩ := rel.own i ds hi
    exact ⟨_, at_base hτ hng h1, k _ S H rel.grow h1 trivial⟩
  · rename_i ds hi
    obtain ⟨a, xs, h1, _⟩ := rel.fgn i ds hi
    exact ⟨_, at_base hτ hng h1, k _ S H rel.grow h1 trivial⟩
  · exact k.elim
theorem s_con {c : Cc} {Φ : Ph} (F : Fit X c G Φ) {x : Str} {d : D} (hd : c.con.lookup x = some d) (hk : kdOf d = none) (hg : Gl X x) (hdb : (x == ("__debug__" : Str)) = false) : PE X (.Name x pos) (tE G fun e => .ok (.v d) e) := by
  have q := F.con x d hd
  unfold ConAt at q
  rw [hk] at q
  obtain ⟨v, u, h1, h2, h3⟩ := q
  exact PEwk (pe_glob hg h1 h2 hdb) fun σ H Q ⟨τ, hτ, S, e, rel, lnk, k⟩ => k v S H rel.grow (by rw [← F.K]; exact h3 S) trivial

theorem isNo_ok {K : Fg} {S H : Hp} {x : V} {d : D} (z : Rz K S H x d) : decide (x = .non) = isNo d := by
  rcases z with z | ⟨a, xs, ds, rfl, rfl, _⟩
  · cases z <;> rfl
  · rfl
theorem s_isn_read (u : Bool → Bool) (σ : L2.St) (H : Hp) (Q : VK) (q : tE G (fun e => (f e).bd fun x e1 => match res e1 x with
    | some d => .ok (.v (.bool (u (isNo d)))) e1
    | none => .st) σ H Q) : tE G f σ H fun x H1 => Q (.bl (u (decide (x = .non)))) H1 := by
  obtain ⟨τ, hτ, S, e, rel, lnk, k⟩ := q
  refine ⟨τ, hτ, S, e, rel, lnk, k.bd fun r e1 x S1 H1 _ g1 p1 _ k1 => ?_⟩
  split at k1
  · rename_i d hd
    rw [isNo_ok (res_ok g1.rel p1 hd)]
    exact k1 _ S1 H1 g1 (.bl _) trivial
  · exact k1.elim
noncomputable def semIsn (u : Bool → Bool) (f : En → R) (e : En) : R := (f e).bd fun x e1 => match res e1 x with
    | some d => .ok (.v (.bool (u (isNo d)))) e1
    | none => .st
theorem s_isn {j : Nat} {pos' : Pos} (ha : PE X a (tE G f)) : PE X (.Compare a [.Is] [.Constant .none j pos'] pos) (tE G (semIsn (fun b => b) f)) :=
  PEwk (pe_cmp (pc_isN ha)) fun σ H Q q => s_isn_read (fun b => b) σ H Q q
theorem s_nisn {j : Nat} {pos' : Pos} (ha : PE X a (tE G f)) : PE X (.Compare a [.IsNot] [.Constant .none j pos'] pos) (tE G (semIsn not f)) :=
  PEwk (pe_cmp (pc_notN ha)) fun σ H Q q => s_isn_read not σ H Q q
theorem s_isnT {j : Nat} {pos' : Pos} (ha : PE X a (tE G f)) : PT X (.Compare a [.Is] [.Constant .none j pos'] pos) (tT G fun e => asT (semIsn (fun b => b) f e)) :=
  PTwk (pt_cmp (pc_isN ha)) fun σ H Q q => s_isn_read (fun b => b) σ H _ (asT_read σ H Q q)
theorem s_nisnT {j : Nat} {pos' : Pos} (ha : PE X a (tE G f)) : PT X (.Compare a [.IsNot] [.Constant .none j pos'] pos) (tT G fun e => asT (semIsn not f e)) :=
  PTwk (pt_cmp (pc_notN ha)) fun σ H Q q => s_isn_read not σ H _ (asT_read σ H Q q)
noncomputable def semChn (f g h : En → R) (o o2 : Cp) (e : En) : R := (f e).bd fun x e1 => (g e1).bd fun y e2 => match res e2 x, res e2 y with
    | some d, some d' => match cmpD o d d' with
      | some true => (h e2).bd fun z e3 => match res e3 y, res e3 z with
        | some f, some f' => ofB e3 (cmpD o2 f f')
        | _, _ => .st
      | some false => .ok (.v (.bool false)) e2
      | none => .st
    | _, _ => .st
theorem s_chn_read (hK : X.K = G.K) (o o2 : Cp) (σ : L2.St) (H : Hp) (Q : VK) (q : tE G (semChn f g h o o2) σ H Q) : tChain (rC X.K o) (rC X.K o2) (tE G f) (tE G g) (tE G h) σ H Q := by
  obtain ⟨τ, hτ, S, e, rel, lnk, k⟩ := q
  refine ⟨τ, hτ, S, e, rel, lnk, k.bd fun ra e1 x S1 H1 _ g1 p1 _ k1 => ⟨τ, hτ, S1, e1, g1.rel, lnk.mono g1.sub, (k1.step g1).bd fun rb e2 y S2 H2 _ g2 p2 _ k2 => ?_⟩⟩
  split at k2
  · rename_i d d' h1 h2
    split at k2
    · rename_i hr
      rw [hK]
      refine ⟨S2, d, d', true, g2.rel.sub, res_ok g2.rel (p1.grow g2) h1, res_ok g2.rel p2 h2, hr, true, rfl, ?_⟩
      rw [if_pos rfl]
      refine ⟨τ, hτ, S2, e2, g2.rel, (lnk.mono g1.sub).mono g2.sub, (k2.step g2).bd fun rc e3 z S3 H3 _ g3 p3 _ k3 => ?_⟩
      split at k3
      · rename_i u u' h3 h4
        cases hr2 : cmpD o2 u u' with
        | none => rw [hr2] at k3; exact k3.elim
        | some r =>
          rw [hr2] at k3
          exact ⟨S3, u, u', r, g3.rel.sub, res_ok g3.rel (p2.grow g3) h3, res_ok g3.rel p3 h4, hr2, k3 _ S3 H3 g3 (.bl _) trivial⟩
      · exact k3.elim
    · rename_i hr
      rw [hK]
      refine ⟨S2, d, d', false, g2.rel.sub, res_ok g2.rel (p1.grow g2) h1, res_ok g2.rel p2 h2, hr, false, rfl, ?_⟩
      rw [if_neg (by decide)]
      exact k2 _ S2 H2 g2 (.bl _) trivial
    · exact k2.elim
  · exact k2.elim
theorem plain_last (hb : plainX c = true) {op op' : CmpOp} : lastMarks [op, op'] [b, c] = false := by
  show lastMarks [op'] [c] = false
  exact plain_mark hb
theorem s_chn (hK : X.K = G.K) (hu : X.A.units + 200 < cLine) (o o2 : Cp) (hp : plainX c = true) (ha : PE X a (tE G f)) (hb : PE X b (tE G g)) (hc : PE X c (tE G h)) :
    PE X (.Compare a [cpA o, cpA o2] [b, c] pos) (tE G (semChn f g h o o2)) := PEwk (pe_chain (cmpR hu o) (cmpR hu o2) ha hb hc (plain_last hp)) fun σ H Q q => s_chn_read hK o o2 σ H Q q
theorem s_chnT (hK : X.K = G.K) (hu : X.A.units + 200 < cLine) (o o2 : Cp) (hp : plainX c = true) (ha : PE X a (tE G f)) (hb : PE X b (tE G g)) (hc : PE X c (tE G h)) :
    PT X (.Compare a [cpA o, cpA o2] [b, c] pos) (tT G fun e => asT (semChn f g h o o2 e)) := PTwk (pt_chain (cmpR hu o) (cmpR hu o2) ha hb hc (plain_last hp)) fun σ H Q q => s_chn_read hK o o2 σ H _ (asT_read σ H Q q)

def bopA : Bool → BoolOp
  | true => .And | false => .Or
noncomputable def semB1 (f : En → R) (e : En) : R := (asT (f e)).bd fun b e1 => .ok (.v (.bool b)) e1
noncomputable def semB2 (c : Bool) (f g : En → R) (e : En) : R := (asT (f e)).bd fun t e1 => if t = c then g e1 else .ok (.v (.bool t)) e1
theorem s_b1_read (σ : L2.St) (H : Hp) (Q : VK) (q : tE G (semB1 f) σ H Q) : tE G f σ H fun x H1 => ∃ b, x = .bl b ∧ Q (.bl b) H1 := by
  obtain ⟨τ, hτ, S, e, rel, lnk, k⟩ := q
  exact asT_read σ H (fun b H1 => Q (.bl b) H1) ⟨τ, hτ, S, e, rel, lnk, PB.bd k fun b e1 S1 H1 _ g1 k1 => k1 _ S1 H1 g1 (.bl _) trivial⟩
theorem s_b1 (c : Bool) (ha : PE X a (tE G f)) : PE X (.BoolOp (bopA c) [a] pos) (tE G (semB1 f)) := PEwk (pe_one ha) fun σ H Q q => by
  obtain ⟨τ, hτ, S, e, rel, lnk, k⟩ := s_b1_read σ H Q q
  refine ⟨τ, hτ, S, e, rel, lnk, ?_⟩
  cases hf : f e with
  | st => rw [hf] at k; exact k
  | ex x e1 => rw [hf] at k; exact k
  | ok r e1 =>
    rw [hf] at k
    intro x S' H' g1 p1 f1
    obtain ⟨b, rfl, q1⟩ := k x S' H' g1 p1 f1
    exact q1
theorem s_b2_read (c : Bool) (σ : L2.St) (H : Hp) (Q : VK) (q : tE G (semB2 c f g) σ H Q) : tT G (fun e => asT (f e)) σ H fun b H1 => if b = c then tE G g σ H1 Q else Q (.bl b) H1 := by
  obtain ⟨τ, hτ, S, e, rel, lnk, k⟩ := q
  refine ⟨τ, hτ, S, e, rel, lnk, PB.bd k fun b e1 S1 H1 _ g1 k1 => ?_⟩
  by_cases hb : b = c
  · rw [if_pos hb] at k1 ⊢
    exact ⟨τ, hτ, S1, e1, g1.rel, lnk.mono g1.sub, k1.step g1⟩
  · rw [if_neg hb] at k1 ⊢
    exact k1 _ S1 H1 g1 (.bl _) trivial
theorem s_b2 (cc : Bool) (ha : PE X a (tE G f)) (hb : PE X (.BoolOp (bopA cc) (b :: es) pos) (tE G g)) : PE X (.BoolOp (bopA cc) (a :: b :: es) pos) (tE G (semB2 cc f g)) := by
  cases cc with
  | true =>
    refine PEwk (pe_and ha hb) fun σ H Q q => ?_
    obtain ⟨τ, hτ, S, e, rel, lnk, k⟩ := asT_read σ H _ (s_b2_read true σ H Q q)
    exact ⟨τ, hτ, S, e, rel, lnk, by
      cases hf : f e with
      | st => rw [hf] at k; exact k
      | ex x e1 => rw [hf] at k; exact k
      | ok r e1 =>
        rw [hf] at k
        intro x S' H' g1 p1 f1
        obtain ⟨b, rfl, q1⟩ := k x S' H' g1 p1 f1
        refine ⟨b, rfl, ?_⟩
        cases b with
        | true => exact q1
        | false => exact q1⟩
  | false =>
    refine PEwk (pe_or ha hb) fun σ H Q q => ?_
    obtain ⟨τ, hτ, S, e, rel, lnk, k⟩ := asT_read σ H _ (s_b2_read false σ H Q q)
    exact ⟨τ, hτ, S, e, rel, lnk, by
      cases hf : f e with
      | st => rw [hf] at k; exact k
      | ex x e1 => rw [hf] at k; exact k
      | ok r e1 =>
        rw [hf] at k
        intro x S' H' g1 p1 f1
        obtain ⟨b, rfl, q1⟩ := k x S' H' g1 p1 f1
        refine ⟨b, rfl, ?_⟩
        cases b with
        | true => exact q1
        | false => exact q1⟩
/-- bop as a test -/
theorem s_b1W (cc : Bool) (ha : PT X a (tT G fun e => asT (f e))) : PW X (.BoolOp (bopA cc) [a] pos) (tT G fun e => asT (semB1 f e)) := by
  have key : ∀ σ H Q, tT G (fun e => asT (semB1 f e)) σ H Q → tT G (fun e => asT (f e)) σ H Q := fun σ H Q ⟨τ, hτ, S, e, rel, lnk, k⟩ => ⟨τ, hτ, S, e, rel, lnk, by
    have k : PB G S H τ e Q (asT (semB1 f e)) := k
    show PB G S H τ e Q (asT (f e))
    unfold semB1 at k
    cases hf : asT (f e) with
    | st => rw [hf] at k; exact k
    | ex x e1 => rw [hf] at k; exact k
    | ok b e1 => rw [hf] at k; exact k⟩
  cases cc with
  | true => exact ⟨fun wh pins s σ H Q I h => (pw_and1 ha).run wh pins s σ H Q I (key σ H Q h)⟩
  | false => exact ⟨fun wh pins s σ H Q I h => (pw_or1 ha).run wh pins s σ H Q I (key σ H Q h)⟩
theorem s_b2W (cc : Bool) (ha : PT X a (tT G fun e => asT (f e))) (hb : PW X (.BoolOp (bopA cc) (b :: es) pos) (tT G fun e => asT (g e))) : PW X (.BoolOp (bopA cc) (a :: b :: es) pos) (tT G fun e => asT (semB2 cc f g e)) := by
  have key : ∀ σ H Q, tT G (fun e => asT (semB2 cc f g e)) σ H Q → tT G (fun e => asT (f e)) σ H fun t H1 => if t = cc then tT G (fun e => asT (g e)) σ H1 Q else Q t H1 := fun σ H Q ⟨τ, hτ, S, e, rel, lnk, k⟩ => ⟨τ, hτ, S, e, rel, lnk, by
    have k : PB G S H τ e Q (asT (semB2 cc f g e)) := k
    show PB G S H τ e _ (asT (f e))
    unfold semB2 at k
    cases hf : asT (f e) with
    | st => rw [hf] at k; exact k
    | ex x e1 => rw [hf] at k; exact k
    | ok t e1 =>
      rw [hf] at k
      intro S1 H1 g1
      have k : PB G S H τ e Q (asT (if t = cc then g e1 else .ok (.v (.bool t)) e1)) := k
      by_cases ht : t = cc
      · rw [if_pos ht] at k ⊢
        exact ⟨τ, hτ, S1, e1, g1.rel, lnk.mono g1.sub, k.step g1⟩
      · rw [if_neg ht] at k ⊢
        exact k S1 H1 g1⟩
  cases cc with
  | true => exact ⟨fun wh pins s σ H Q I h => (pw_and ha hb).run wh pins s σ H Q I (by
      obtain ⟨τ, hτ, S, e, rel, lnk, k⟩ := key σ H Q h
      refine ⟨τ, hτ, S, e, rel, lnk, ?_⟩
      have k : PB G S H τ e _ (asT (f e)) := k
      show PB G S H τ e _ (asT (f e))
      cases hf : asT (f e) with
      | st => rw [hf] at k; exact k
      | ex x e1 => rw [hf] at k; exact k
      | ok t e1 =>
        rw [hf] at k
        intro S1 H1 g1
        have := k S1 H1 g1
        cases t <;> exact this)⟩
  | false => exact ⟨fun wh pins s σ H Q I h => (pw_or ha hb).run wh pins s σ H Q I (by
      obtain ⟨τ, hτ, S, e, rel, lnk, k⟩ := key σ H Q h
      refine ⟨τ, hτ, S, e, rel, lnk, ?_⟩
      have k : PB G S H τ e _ (asT (f e)) := k
      show PB G S H τ e _ (asT (f e))
      cases hf : asT (f e) with
      | st => rw [hf] at k; exact k
      | ex x e1 => rw [hf] at k; exact k
      | ok t e1 =>
        rw [hf] at k
        intro S1 H1 g1
        have := k S1 H1 g1
        cases t <;> exact this)⟩
noncomputable def semNt (f : En → R) (e : En) : R := (asT (f e)).bd fun b e1 => .ok (.v (.bool (!b))) e1
theorem s_nt (ha : PE X a (tE G f)) : PE X (.UnaryOp .Not a pos) (tE G (semNt f)) := PEwk (pe_not ha) fun σ H Q ⟨τ, hτ, S, e, rel, lnk, k⟩ => by
  exact asT_read σ H (fun b H1 => Q (.bl (!b)) H1) ⟨τ, hτ, S, e, rel, lnk, PB.bd k fun b e1 S1 H1 _ g1 k1 => k1 _ S1 H1 g1 (.bl _) trivial⟩
theorem s_ntT (ha : PT X a (tT G fun e => asT (f e))) : PT X (.UnaryOp .Not a pos) (tT G fun e => asT (semNt f e)) := PTwk (pt_not ha) fun σ H Q ⟨τ, hτ, S, e, rel, lnk, k⟩ => ⟨τ, hτ, S, e, rel, lnk, by
    have k : PB G S H τ e Q (asT (semNt f e)) := k
    show PB G S H τ e _ (asT (f e))
    unfold semNt at k
    cases hf : asT (f e) with
    | st => rw [hf] at k; exact k
    | ex x e1 => rw [hf] at k; exact k
    | ok b e1 => rw [hf] at k; exact k⟩
noncomputable def semIte (t : En → RT) (f g : En → R) (e : En) : R := (t e).bd fun t e1 => if t = true then f e1 else g e1
theorem s_ite {t : En → RT} (hc : PT X c (tT G t)) (ha : PE X a (tE G f)) (hb : PE X b (tE G g)) : PE X (.IfExp c a b pos) (tE G (semIte t f g)) := PEwk (pe_ifExp hc ha hb) fun σ H Q ⟨τ, hτ, S, e, rel, lnk, k⟩ => ⟨τ, hτ, S, e, rel, lnk, PB.bd k fun b e1 S1 H1 _ g1 k1 => by
    cases b with
    | true => exact ⟨τ, hτ, S1, e1, g1.rel, lnk.mono g1.sub, k1.step g1⟩
    | false => exact ⟨τ, hτ, S1, e1, g1.rel, lnk.mono g1.sub, k1.step g1⟩⟩
/-- a test that is no special form -/
def plainT : Expr → Bool
  | .UnaryOp .Not _ _ => false
  | .BoolOp .. => false
  | .IfExp .. => false
  | .Compare .. => false
  | _ => true
theorem s_test (hp : plainT a = true) (ha : PE X a (tE G f)) : PT X a (tT G fun e => asT (f e)) := by
  refine PTwk (pt_val ha fun whole => ?_) fun σ H Q q => asT_read σ H Q q
  unfold PySem.isTrue
  split <;> first | rfl | (simp [plainT] at hp)

noncomputable def semLst (gl : En → RL) (e : En) : R := (gl e).bd fun rs e1 => match toVs rs e1 with
    | some (ds, e2) => if ds.length ≤ L then .ok (.o ds) e2 else .st
    | none => .st
noncomputable def semTup (gl : En → RL) (e : En) : R := (gl e).bd fun rs e1 => match toVs rs e1 with
    | some (ds, e2) => if ds.length ≤ L then .ok (.v (.tuple ds)) e2 else .st
    | none => .st
theorem s_lst {gl : En → RL} (ha : PA X es (tL G gl)) : PE X (.List es pos) (tE G (semLst gl)) := PEwk (pe_lst ha) fun σ H Q ⟨τ, hτ, S, e, rel, lnk, k⟩ => ⟨τ, hτ, S, e, rel, lnk, PL.bd k fun rs e1 xs S1 H1 _ g1 p1 f1 k1 => by
  split at k1
  · rename_i ds e2 hv
    split at k1
    · rename_i hl
      obtain ⟨S', g', _, pa⟩ := toVs_ok g1 p1 f1 hv
      refine ⟨by rw [pa.length]; exact hl, fun p hp => ?_⟩
      obtain ⟨g2, r2, f2⟩ := g'.lst hp pa
      exact k1 _ S' _ g2 r2 f2
    · exact k1.elim
  · exact k1.elim⟩
theorem s_tup {gl : En → RL} {kk : Nat} (ha : PA X es (tL G gl)) : PE X (.Tuple es kk pos) (tE G (semTup gl)) := PEwk (pe_tup ha) fun σ H Q ⟨τ, hτ, S, e, rel, lnk, k⟩ => ⟨τ, hτ, S, e, rel, lnk, PL.bd k fun rs e1 xs S1 H1 _ g1 p1 f1 k1 => by
  split at k1
  · rename_i ds e2 hv
    split at k1
    · rename_i hl
      obtain ⟨S', g', _, pa⟩ := toVs_ok g1 p1 f1 hv
      refine ⟨by rw [pa.length]; exact hl, fun p hp => ?_⟩
      obtain ⟨S2, g2, r2⟩ := g'.tup hp pa
      exact k1 _ S2 _ g2 r2 trivial
    · exact k1.elim
  · exact k1.elim⟩
noncomputable def semIx (f g : En → R) (e : En) : R := (f e).bd fun x e1 => (g e1).bd fun y e2 => match resF e2 x, res e2 y with
    | some d, some d' => ofO e2 (ixD d d')
    | _, _ => .st
theorem s_ix (hK : X.K = G.K) (hp : plainX b = true) (ha : PE X a (tE G f)) (hb : PE X b (tE G g)) : PE X (.Subscript a b pos) (tE G (semIx f g)) :=
  PEwk (pe_ix ixR ha hb (plain_ix hp)) fun σ H Q ⟨τ, hτ, S, e, rel, lnk, k⟩ => ⟨τ, hτ, S, e, rel, lnk, k.bd fun ra e1 x S1 H1 _ g1 p1 _ k1 => ⟨τ, hτ, S1, e1, g1.rel, lnk.mono g1.sub, (k1.step g1).bd fun rb e2 y S2 H2 _ g2 p2 _ k2 => by
  split at k2
  · rename_i d d' h1 h2
    cases hr : ixD d d' with
    | none => rw [hr] at k2; exact k2.elim
    | some r =>
      rw [hr] at k2
      rw [hK]
      exact ⟨S2, d, d', r, resF_ok g2.rel (p1.grow g2) h1, res_ok g2.rel p2 h2, hr, Dl.of g2 k2⟩
  · exact k2.elim⟩⟩
/-- a slice's part -/
def tP (G : Gx) (f : En → RL) : TO := fun σ H Q => ∃ τ, base G τ = σ ∧ ∃ S e, Rel G.K S H τ e ∧ Lk G τ S ∧ match f e with
    | .st => False
    | .ex x e' => PX G S H τ e x e'
    | .ok rs e' => ∃ o, optI rs = some o ∧ ∀ S' H', Grow G.K S H τ e S' H' τ e' → Q o H'
theorem s_po_none : PO X none (tP G fun e => .ok [] e) := ⟨fun pins s σ H Q I ⟨τ, hτ, S, e, rel, lnk, o, ho, k⟩ => po_none.run pins s σ H Q I (by cases ho; exact k S H rel.grow)⟩
theorem s_po_some (ha : PE X a (tE G f)) : PO X (some a) (tP G (semCons f fun e => .ok [] e)) := ⟨fun pins s σ H Q I ⟨τ, hτ, S, e, rel, lnk, k⟩ => (po_some ha).run pins s σ H Q I ⟨τ, hτ, S, e, rel, lnk, by
  unfold semCons at k
  cases hf : f e with
  | st => simp only [hf] at k
  | ex x e1 => simp only [hf] at k; exact k
  | ok r e1 =>
    simp only [hf] at k
    obtain ⟨o, ho, k⟩ := k
    intro x S' H' g1 p1 _
    unfold optI at ho
    split at ho
    · rename_i z; cases z
    · rename_i i z
      cases z
      cases ho
      cases p1
      exact ⟨i, rfl, k S' H' g1⟩
    · cases ho⟩⟩
noncomputable def semSl (f : En → R) (gl hl : En → RL) (e : En) : R := (f e).bd fun x e1 => (gl e1).bd fun l e2 => match optI l with
    | none => .st
    | some l' => (hl e2).bd fun h e3 => match optI h with
      | none => .st
      | some h' => match res e3 x with
        | some d => ofO e3 (slD d l' h')
        | none => .st
theorem tP_of {gl : En → RL} {S H : Hp} {σ : L2.St} {e : En} {Q : VK} {F : Option Int → En → R} {Q' : Option Int → Hp → Prop} {σ' : L2.St} (hτ : base G σ = σ') (rel : Rel G.K S H σ e) (lnk : Lk G σ S) (k : PR G S H σ e Q ((gl e).bd fun l e2 => match optI l with
    | none => .st
    | some l' => F l' e2)) (h : ∀ e2 o S' H', Grow G.K S H σ e S' H' σ e2 → PR G S H σ e Q (F o e2) → Q' o H') : tP G gl σ' H Q' := by
  refine ⟨σ, hτ, S, e, rel, lnk, ?_⟩
  cases hg : gl e with
  | st => rw [hg] at k; exact k
  | ex x e1 => rw [hg] at k; exact k
  | ok rs e2 =>
    rw [hg] at k
    have k : PR G S H σ e Q (match optI rs with
      | none => .st
      | some l' => F l' e2) := k
    cases ho : optI rs with
    | none => rw [ho] at k; exact k.elim
    | some o =>
      rw [ho] at k
      exact ⟨o, ho, fun S' H' g => h e2 o S' H' g k⟩
theorem s_sl (hK : X.K = G.K) {lo hi : Option Expr} {gl hl : En → RL} {p2 : Pos} (ha : PE X a (tE G f)) (h1 : PO X lo (tP G gl)) (h2 : PO X hi (tP G hl)) : PE X (.Subscript a (.Slice lo hi none p2) pos) (tE G (semSl f gl hl)) :=
  PEwk (pe_slice slR ha h1 h2) fun σ H Q ⟨τ, hτ, S, e, rel, lnk, k⟩ => ⟨τ, hτ, S, e, rel, lnk, k.bd fun ra e1 x S1 H1 _ g1 p1 _ k1 => by
  refine tP_of hτ g1.rel (lnk.mono g1.sub) (k1.step g1) fun e2 o S2 H2 g2 k2 => ?_
  refine tP_of hτ g2.rel ((lnk.mono g1.sub).mono g2.sub) (k2.step g2) fun e3 o' S3 H3 g3 k3 => ?_
  split at k3
  · rename_i d hd
    cases hr : slD d o o' with
    | none => rw [hr] at k3; exact k3.elim
    | some r =>
      rw [hr] at k3
      rw [hK]
      exact ⟨S3, d, r, res_ok g3.rel ((p1.grow g2).grow g3) hd, hr, Dl.of g3 k3⟩
  · exact k3.elim⟩
def biN : Bi → Str
  | .len => "len" | .abs => "abs" | .int => "int" | .max => "max" | .min => "min" | .sum => "sum" | .sorted => "sorted"
  | .list => "list" | .tuple => "tuple" | .repr => "repr" | .str => "str" | .all => "all" | .any => "any"
noncomputable def semBi (gl : En → RL) (b : Bi) (e : En) : R := (gl e).bd fun rs e1 => match ressF e1 rs with
    | some ds => ofO e1 (biD b ds)
    | none => .st
theorem s_bi {c : Cc} {Φ : Ph} (F : Fit X c G Φ) {gl : En → RL} {p : Pos} (b : Bi) (hg : Gl X (biN b)) (hpa : plainX a = true) (hpe : es.all plainX = true) (ha : PA X (a :: es) (tL G gl)) : PE X (.Call (.Name (biN b) p) (a :: es) [] pos) (tE G (semBi gl b)) := by
  have hm : X.mg (biN b) = none := F.blt _ (by cases b <;> decide)
  have run : PE X (.Call (.Name (biN b) p) (a :: es) [] pos) (tCB (rBi X.K b) (tL G gl)) := by
    have r := biR F.calm F.un F.gd b
    cases b <;> first
      | exact pe_callB r hg hm (by decide +kernel) ha (by decide) (by decide) (star_cons hpa) (star_flags hpe)
      | exact pe_callTy r hg hm (by decide +kernel) ha (by decide) (by decide) (star_cons hpa) (star_flags hpe)
  refine PEwk run fun σ H Q ⟨τ, hτ, S, e, rel, lnk, k⟩ => ⟨τ, hτ, S, e, rel, lnk, PL.bd k fun rs e1 xs S1 H1 _ g1 p1 f1 k1 => ?_⟩
  split at k1
  · rename_i ds hd
    cases hr : biD b ds with
    | none => rw [hr] at k1; exact k1.elim
    | some r =>
      rw [hr] at k1
      rw [F.K]
      exact ⟨S1, ds, r, ressF_ok g1.rel p1 hd, hr, Dl.of g1 k1⟩
  · exact k1.elim
end
end Vc
end
section
set_option Elab.async false
set_option linter.all false
namespace Vc
open PySem PySem.Spec PyProof.Rows L2
variable [XrC]
section
variable {X : Cx} {G : Gx} {a b c : Expr} {es : List Expr} {pos : Pos} {f g h : En → R}
def tyN : D → String
  | .int _ => "int"
  | .bool _ => "bool"
  | .str _ => "str"
  | .list _ => "list"
  | .tuple _ => "tuple"
  | .dict _ => "dict"
  | .none => "NoneType"
def tyS : Ty → String
  | .int => "int" | .bool => "bool" | .str => "str" | .list => "list" | .tuple => "tuple"
def tyX : Ty → Str
  | .int => "int" | .bool => "bool" | .str => "str" | .list => "list" | .tuple => "tuple"
theorem kit_isTy (K : Fg) (t : Ty) (d : D) : PySem.W.kitOne K (.type (tyN d)) (.type (tyS t)) = some (isTy t d) := by
  have key : ∀ d' : D, tyN d = tyN d' → isTy t d = isTy t d' → (∀ n, n = tyN d' → kitB n (tyS t) = some (isTy t d')) → PySem.W.kitOne K (.type (tyN d)) (.type (tyS t)) = some (isTy t d) := fun d' h1 h2 h3 => by
    rw [h2]; exact kit_ty (h3 _ h1)
  cases d with
  | none => exact key .none rfl rfl (by intro n e; subst e; cases t <;> decide +kernel)
  | bool b => exact key (.bool true) rfl (by cases t <;> rfl) (by intro n e; subst e; cases t <;> decide +kernel)
  | int b => exact key (.int 0) rfl (by cases t <;> rfl) (by intro n e; subst e; cases t <;> decide +kernel)
  | str b => exact key (.str "") rfl (by cases t <;> rfl) (by intro n e; subst e; cases t <;> decide +kernel)
  | list b => exact key (.list []) rfl (by cases t <;> rfl) (by intro n e; subst e; cases t <;> decide +kernel)
  | tuple b => exact key (.tuple []) rfl (by cases t <;> rfl) (by intro n e; subst e; cases t <;> decide +kernel)
  | dict z => exact key (.dict []) rfl (by cases t <;> rfl) (by intro n e; subst e; cases t <;> decide +kernel)
theorem tyX_of {K : Fg} {S H : Hp} {x : V} {d : D} (sb : Sub S H) (z : Rz K S H x d) : TyX K H x (.type (tyN d)) := by
  rcases z with z | ⟨a, xs, ds, rfl, rfl, h1, _⟩
  · cases z with
    | non => exact .base .non
    | bl b => exact .base (.bl b)
    | int i => exact .base (.int i)
    | str s => exact .base (.str s)
    | lst h1 _ => exact .base (.lst (sb _ _ h1))
    | tup h1 _ =>
      rcases sb.sqT h1 with h | ⟨o, its, n, h2, h3, _⟩
      · rcases h with h | ⟨o, h⟩
        · exact .base (.tup h)
        · exact .fTuple h
      · exact .kTuple h2 h3
    | dct h1 => exact .base (.dK (sb _ _ h1))
  · exact .base (.lst h1)
noncomputable def semIsi (f : En → R) (t : Ty) (e : En) : R := (f e).bd fun x e1 => match res e1 x with
    | some d => .ok (.v (.bool (isTy t d))) e1
    | none => .st
theorem s_isi {cc : Cc} {Φ : Ph} (F : Fit X cc G Φ) {p p2 : Pos} (t : Ty) (hg : Gl X "isinstance") (hgt : Gl X (tyX t)) (hpa : plainX a = true) (ha : PE X a (tE G f)) : PE X (.Call (.Name "isinstance" p) [a, .Name (tyX t) p2] [] pos) (tE G (semIsi f t)) := by
  have ht : PE X (.Name (tyX t) p2) (tC (.ty (tyS t))) := pe_bltn (u := .type (tyS t)) hgt (F.blt _ (by cases t <;> decide)) (by cases t <;> decide +kernel) rfl (by cases t <;> decide) (by cases t <;> decide)
  refine PEwk (pe_callB call_isi hg (F.blt _ (by decide)) (by decide +kernel) (pa_cons ha (pa_cons ht pa_nil rfl) (star_cons hpa)) (by decide) (by decide) (star_cons hpa) rfl) fun σ H Q ⟨τ, hτ, S, e, rel, lnk, k⟩ => ⟨τ, hτ, S, e, rel, lnk, k.bd fun r e1 x S1 H1 _ g1 p1 _ k1 => ?_⟩
  split at k1
  · rename_i d hd
    have z := res_ok g1.rel p1 hd
    refine ⟨x, .ty (tyS t), _, _, isTy t d, rfl, .ty _, ?_, kit_isTy _ t d, k1 _ S1 H1 g1 (.bl _) trivial⟩
    rw [F.K]; exact tyX_of g1.rel.sub z
  · exact k1.elim

noncomputable def semMth (m : Mt) (f : En → R) (gl : En → RL) (e : En) : R := (f e).bd fun x e1 => match res e1 x with
    | none => .st
    | some d0 => if isTy (mtTy m) d0 then (gl e1).bd fun rs e2 => match res e2 x, ress e2 rs with
      | some d, some ds => ofO e2 (mtD m d ds)
      | _, _ => .st
      else .st
theorem tyV_of {S H : Hp} {x : V} {d : D} {K : Fg} (m : Mt) (sb : Sub S H) (z : Rz K S H x d) (ht : isTy (mtTy m) d = true) : tyV K (mtT m) x H := by
  have key : (mtT m = "list" ∧ ∃ ds, d = .list ds) ∨ (mtT m = "str" ∧ ∃ y, d = .str y) := by
    cases m <;> cases d <;> simp [mtTy, isTy, mtT] at ht ⊢
  rcases key with ⟨e, ds, rfl⟩ | ⟨e, y, rfl⟩
  · obtain ⟨b, xs, rfl, h1, _⟩ := z.lst sb
    rw [e]; exact .inl ⟨rfl, _, sqL_of h1⟩
  · obtain rfl := z.str
    rw [e]; rfl
theorem s_mth {cc : Cc} {Φ : Ph} (F : Fit X cc G Φ) (m : Mt) {gl : En → RL} {ap : Pos} (hpo : plainB a = true) (hpa : plainX b = true) (hpe : es.all plainX = true) (hl : es.length < 20) (hli : (ap.endLine == pos.line) = true)
    (ha : PE X a (tE G f)) (hb : PA X (b :: es) (tL G gl)) : PE X (.Call (.Attribute a (mtN m) ap) (b :: es) [] pos) (tE G (semMth m f gl)) := by
  have hpe' : (b :: es).all plainX = true := by rw [List.all_cons, hpa, hpe]; rfl
  have run : PE X (.Call (.Attribute a (mtN m) ap) (b :: es) [] pos) (tBM X.K (mtT m) (rMt X.K m) (tE G f) (tL G gl)) := by
    have r := mtR (X := X) F.un m
    have c2 : ((((backTo pos (starEach (b :: es) X.env)).all fun x => !x.1) && (backToKw pos (keywordEach [] X.env)).all (·.1.isSome)) && decide ((b :: es).length + ([] : List Keyword).length + (if ([] : List Keyword).isEmpty = true then 0 else 1) < 30)) = true := by
      rw [star_len hpe']
      simp [keywordEach, backToKw]
      omega
    cases m with
    | index => exact pe_bm PySem.F.plainAttrs_list PySem.F.slot_list_index PySem.F.type_list_index r ha hb (plain_base hpo) c2 hli (star_cons hpa) (star_flags hpe)
    | count => exact pe_bm PySem.F.plainAttrs_list PySem.F.slot_list_count PySem.F.type_list_count r ha hb (plain_base hpo) c2 hli (star_cons hpa) (star_flags hpe)
    | join => exact pe_bm PySem.F.plainAttrs_str PySem.F.slot_str_join PySem.F.type_str_join r ha hb (plain_base hpo) c2 hli (star_cons hpa) (star_flags hpe)
    | split => exact pe_bm PySem.F.plainAttrs_str PySem.F.slot_str_split PySem.F.type_str_split r ha hb (plain_base hpo) c2 hli (star_cons hpa) (star_flags hpe)
    | startswith => exact pe_bm PySem.F.plainAttrs_str PySem.F.slot_str_startswith PySem.F.type_str_startswith r ha hb (plain_base hpo) c2 hli (star_cons hpa) (star_flags hpe)
    | endswith => exact pe_bm PySem.F.plainAttrs_str PySem.F.slot_str_endswith PySem.F.type_str_endswith r ha hb (plain_base hpo) c2 hli (star_cons hpa) (star_flags hpe)
    | partition => exact pe_bm PySem.F.plainAttrs_str PySem.F.slot_str_partition PySem.F.type_str_partition r ha hb (plain_base hpo) c2 hli (star_cons hpa) (star_flags hpe)
  refine PEwk run fun σ H Q ⟨τ, hτ, S, e, rel, lnk, k⟩ => ⟨τ, hτ, S, e, rel, lnk, k.bd fun r e1 x S1 H1 _ g1 p1 _ k1 => ?_⟩
  split at k1
  · exact k1.elim
  · rename_i d0 hd0
    split at k1
    · rename_i hty
      rw [F.K]
      refine ⟨tyV_of m g1.rel.sub (res_ok g1.rel p1 hd0) hty, τ, hτ, S1, e1, g1.rel, lnk.mono g1.sub, PL.bd (k1.step g1) fun rs e2 xs S2 H2 _ g2 p2 _ k2 => ?_⟩
      split at k2
      · rename_i d ds h1 h2
        cases hr : mtD m d ds with
        | none => rw [hr] at k2; exact k2.elim
        | some r => rw [hr] at k2; exact ⟨S2, d, ds, r, res_ok g2.rel (p1.grow g2) h1, ress_ok g2.rel p2 h2, hr, Dl.of g2 k2⟩
      · exact k2.elim
    · exact k1.elim
noncomputable def semMut (m : Mu) (f : En → R) (gl : En → RL) (e : En) : R := (f e).bd fun x e1 => match x with
    | .b i => match e1[i]? with
      | some (.o _) => (gl e1).bd fun rs e2 => match toVs rs e2 with
        | some (ds, e3) => match e3[i]? with
          | some (.o xs) => match muD m xs ds with
            | some (d, xs') => .ok (.v d) (e3.set i (.o xs'))
            | none => .st
          | _ => .st
        | none => .st
      | _ => .st
    | _ => .st
/-- what is left when the receiver is known -/
theorem mut_done {m : Mu} {S1 S2 H1 H2 : Hp} {σ : L2.St} {e1 e2 : En} {Q : VK} {i : Nat} {x : V} {rs : List RV} {xs : List V} (hx : σ[i]? = some (some x)) (g : Grow G.K S1 H1 σ e1 S2 H2 σ e2) (p2 : RepRs G.K S2 H2 σ e2 rs xs) (f2 : FrsA H1 σ e1 rs xs)
    (k2 : PR G S1 H1 σ e1 Q (match toVs rs e2 with
        | some (ds, e3) => match e3[i]? with
          | some (.o xs) => match muD m xs ds with
            | some (d, xs') => .ok (.v d) (e3.set i (.o xs'))
            | none => .st
          | _ => .st
        | none => .st)) : rMu G.K m x xs H2 Q := by
  split at k2
  · rename_i ds e3 hv
    split at k2
    · rename_i ys hi
      split at k2
      · rename_i d ys' hm
        obtain ⟨S', g', _, pa⟩ := toVs_ok g p2 f2 hv
        obtain ⟨a, vs, h1, h2, h3, h4⟩ := g'.rel.own i ys hi
        rw [hx] at h1; cases h1
        refine ⟨S', a, vs, ys, ds, d, ys', rfl, g'.rel.sub, h2, h4, pa, hm, fun y xs' hy hxs => ?_⟩
        exact k2 y S' _ (g'.trans (g'.rel.write hi hx h2 hxs)) hy trivial
      · exact k2.elim
    · exact k2.elim
  · exact k2.elim
theorem s_mut (m : Mu) (hm : m ≠ .pop) (hK : X.K = G.K) {gl : En → RL} {ap : Pos} (hpo : plainB a = true) (hpa : plainX b = true) (hpe : es.all plainX = true) (hl : es.length < 20) (hli : (ap.endLine == pos.line) = true)
    (ha : PE X a (tE G f)) (hb : PA X (b :: es) (tL G gl)) : PE X (.Call (.Attribute a (muN m) ap) (b :: es) [] pos) (tE G (semMut m f gl)) := by
  have hpe' : (b :: es).all plainX = true := by rw [List.all_cons, hpa, hpe]; rfl
  have run : PE X (.Call (.Attribute a (muN m) ap) (b :: es) [] pos) (tBM X.K "list" (rMu X.K m) (tE G f) (tL G gl)) := by
    have r := muR (X := X) m
    have c2 : ((((backTo pos (starEach (b :: es) X.env)).all fun x => !x.1) && (backToKw pos (keywordEach [] X.env)).all (·.1.isSome)) && decide ((b :: es).length + ([] : List Keyword).length + (if ([] : List Keyword).isEmpty = true then 0 else 1) < 30)) = true := by
      rw [star_len hpe']
      simp [keywordEach, backToKw]
      omega
    cases m with
    | append => exact pe_bm PySem.F.plainAttrs_list PySem.F.slot_list_append PySem.F.type_list_append r ha hb (plain_base hpo) c2 hli (star_cons hpa) (star_flags hpe)
    | pop => exact absurd rfl hm
    | popAt => exact pe_bm PySem.F.plainAttrs_list PySem.F.slot_list_pop PySem.F.type_list_pop r ha hb (plain_base hpo) c2 hli (star_cons hpa) (star_flags hpe)
    | insert => exact pe_bm PySem.F.plainAttrs_list PySem.F.slot_list_insert PySem.F.type_list_insert r ha hb (plain_base hpo) c2 hli (star_cons hpa) (star_flags hpe)
    | extend => exact pe_bm PySem.F.plainAttrs_list PySem.F.slot_list_extend PySem.F.type_list_extend r ha hb (plain_base hpo) c2 hli (star_cons hpa) (star_flags hpe)
  refine PEwk run fun σ H Q ⟨τ, hτ, S, e, rel, lnk, k⟩ => ⟨τ, hτ, S, e, rel, lnk, k.bd fun r e1 x S1 H1 hr1 g1 p1 fr1 k1 => ?_⟩
  split at k1
  · rename_i i
    split at k1
    · rename_i ys hi
      obtain ⟨a', vs, h1, h2, _⟩ := g1.rel.own i ys hi
      have hx : τ[i]? = some (some x) := p1
      have h1' := h1
      rw [hx] at h1'; cases h1'
      rw [hK]
      exact ⟨.inl ⟨rfl, _, sqL_of h2⟩, τ, hτ, S1, e1, g1.rel, lnk.mono g1.sub, PL.bd (k1.step g1) fun rs e2 xs S2 H2 _ g2 p2 f2 k2 => mut_done hx g2 p2 f2 k2⟩
    · exact k1.elim
  · exact k1.elim
theorem s_pop (hK : X.K = G.K) {ap : Pos} (hpo : plainB a = true) (hli : (ap.endLine == pos.line) = true)
    (ha : PE X a (tE G f)) : PE X (.Call (.Attribute a "pop" ap) [] [] pos) (tE G (semMut .pop f fun e => .ok [] e)) := by
  refine PEwk (pe_bm0 PySem.F.plainAttrs_list PySem.F.slot_list_pop PySem.F.type_list_pop (muR (X := X) .pop) ha (plain_base hpo) hli) fun σ H Q ⟨τ, hτ, S, e, rel, lnk, k⟩ => ⟨τ, hτ, S, e, rel, lnk, k.bd fun r e1 x S1 H1 hr1 g1 p1 fr1 k1 => ?_⟩
  split at k1
  · rename_i i
    split at k1
    · rename_i ys hi
      obtain ⟨a', vs, h1, h2, _⟩ := g1.rel.own i ys hi
      have hx : τ[i]? = some (some x) := p1
      have h1' := h1
      rw [hx] at h1'; cases h1'
      rw [hK]
      exact ⟨.inl ⟨rfl, _, sqL_of h2⟩, mut_done hx g1.rel.grow .nil .nil (k1.step g1)⟩
    · exact k1.elim
  · exact k1.elim

noncomputable def semLrg (gl : En → RL) (e : En) : R := (gl e).bd fun rs e1 => match (ress e1 rs).bind rngD with
    | some ds => if ds.length ≤ L then .ok (.o ds) e1 else .st
    | none => .st
theorem rgV_upto (i j : Int) : rgV i j = (List.range (j - i).toNat).map fun (k : Nat) => V.int (i + (k : Nat)) := rfl
theorem rpA_upto {K : Fg} {S : Hp} (i j : Int) : RpA K S (rgV i j) (upto i (j - i).toNat) := by
  have : ∀ l : List Nat, RpA K S (l.map fun (k : Nat) => V.int (i + (k : Nat))) (l.map fun (k : Nat) => .int (i + k)) := by
    intro l
    induction l with
    | nil => exact .nil
    | cons k r ih => exact .cons (.int _) ih
  exact this _
theorem L_eq : L = 16777216 := by decide
theorem s_lrg1 {cc : Cc} {Φ : Ph} (F : Fit X cc G Φ) {p p2 pos2 : Pos} (hg : Gl X "list") (hgr : Gl X "range") (hpa : plainX a = true) (ha : PE X a (tE G f)) : PE X (.Call (.Name "list" p) [.Call (.Name "range" p2) [a] [] pos2] [] pos) (tE G (semLrg (semCons f fun e => .ok [] e))) := by
  refine PEwk (pe_listRg F.calm hg (F.blt _ (by decide)) (prg_1 hgr (F.blt _ (by decide)) ha (star_cons hpa))) fun σ H Q ⟨τ, hτ, S, e, rel, lnk, k⟩ => ⟨τ, hτ, S, e, rel, lnk, ?_⟩
  unfold semLrg semCons at k
  cases hf : f e with
  | st => rw [hf] at k; exact k
  | ex x e1 => rw [hf] at k; exact k
  | ok r e1 =>
    rw [hf] at k
    intro x S1 H1 g1 p1 f1
    have k : PR G S H τ e Q (match (ress e1 [r]).bind rngD with
      | some ds => if ds.length ≤ L then .ok (.o ds) e1 else .st
      | none => .st) := k
    split at k
    · rename_i ds hd
      split at k
      · rename_i hl
        obtain ⟨dd, h1, h2⟩ := Option.bind_eq_some_iff.mp hd
        simp only [ress, Option.bind_eq_some_iff, Option.map_eq_some_iff] at h1
        obtain ⟨d, hd1, _, e0, rfl⟩ := h1
        cases e0
        have z := res_ok g1.rel p1 hd1
        unfold rngD at h2
        split at h2
        · rename_i j hj
          cases hj
          split at h2
          · rename_i ok
            cases h2
            obtain rfl := z.int
            have ok' := cd_iff.mp ok
            refine ⟨j, rfl, ⟨ok'.1, ok'.2.1, ok'.2.2.1, ok'.2.2.2, ?_⟩, fun q hq => ?_⟩
            · have : j.toNat ≤ L := by simpa [upto] using hl
              have : L = 2 ^ 24 := by decide
              omega
            · obtain ⟨g2, r2, f2⟩ := g1.lst hq (rpA_upto (K := G.K) (S := S1) 0 j)
              have e0 : upto 0 (j - 0).toNat = upto 0 j.toNat := by simp
              rw [e0] at r2 f2
              exact k _ S1 _ g2 r2 f2
          · cases h2
        · rename_i hj; cases hj
        · rename_i hj; cases hj
        · cases h2
      · exact k.elim
    · exact k.elim
theorem s_lrg2 {cc : Cc} {Φ : Ph} (F : Fit X cc G Φ) {p p2 pos2 : Pos} (hg : Gl X "list") (hgr : Gl X "range") (hpa : plainX a = true) (hpb : plainX b = true) (ha : PE X a (tE G f)) (hb : PE X b (tE G g)) :
    PE X (.Call (.Name "list" p) [.Call (.Name "range" p2) [a, b] [] pos2] [] pos) (tE G (semLrg (semCons f (semCons g fun e => .ok [] e)))) := by
  refine PEwk (pe_listRg F.calm hg (F.blt _ (by decide)) (prg_2 hgr (F.blt _ (by decide)) ha hb (star_cons hpa) (star_cons hpb) (star_flags (es := [b]) (by rw [List.all_cons, hpb]; rfl)))) fun σ H Q ⟨τ, hτ, S, e, rel, lnk, k⟩ => ⟨τ, hτ, S, e, rel, lnk, ?_⟩
  unfold semLrg semCons at k
  cases hf : f e with
  | st => rw [hf] at k; exact k
  | ex x e1 => rw [hf] at k; exact k
  | ok r e1 =>
    simp only [hf] at k
    intro x S1 H1 g1 p1 f1
    refine ⟨τ, hτ, S1, e1, g1.rel, lnk.mono g1.sub, ?_⟩
    cases hgg : g e1 with
    | st => simp only [hgg] at k; exact k
    | ex x e2 => simp only [hgg] at k; exact PX.step g1 k
    | ok r' e2 =>
      simp only [hgg] at k
      intro y S2 H2 g2 p2 f2
      have k : PR G S H τ e Q (match (ress e2 [r, r']).bind rngD with
        | some ds => if ds.length ≤ L then .ok (.o ds) e2 else .st
        | none => .st) := k
      split at k
      · rename_i ds hd
        split at k
        · rename_i hl
          obtain ⟨dd, h1, h2⟩ := Option.bind_eq_some_iff.mp hd
          simp only [ress, Option.bind_eq_some_iff, Option.map_eq_some_iff] at h1
          obtain ⟨d, hd1, _, ⟨d', hd2, _, e0, rfl⟩, rfl⟩ := h1
          cases e0
          have z := res_ok g2.rel (p1.grow g2) hd1
          have z' := res_ok g2.rel p2 hd2
          unfold rngD at h2
          split at h2
          · rename_i hj; cases hj
          · rename_i i j hj
            cases hj
            split at h2
            · rename_i ok
              cases h2
              obtain rfl := z.int
              obtain rfl := z'.int
              have ok' := cd_iff.mp ok
              refine ⟨i, j, rfl, rfl, ⟨ok'.1, ok'.2.1, ok'.2.2.1, ok'.2.2.2, ?_⟩, fun q hq => ?_⟩
              · have : (j - i).toNat ≤ L := by simpa [upto] using hl
                have : L = 2 ^ 24 := by decide
                omega
              · obtain ⟨g3, r3, f3⟩ := (g1.trans g2).lst hq (rpA_upto (K := G.K) (S := S2) i j)
                exact k _ S2 _ g3 r3 f3
            · cases h2
          · rename_i hj; cases hj
          · cases h2
        · exact k.elim
      · exact k.elim
noncomputable def semTrg (gl : En → RL) (e : En) : R := (gl e).bd fun rs e1 => match (ress e1 rs).bind rngD with
    | some ds => if ds.length ≤ L then .ok (.v (.tuple ds)) e1 else .st
    | none => .st
theorem s_trg1 {cc : Cc} {Φ : Ph} (F : Fit X cc G Φ) {p p2 pos2 : Pos} (hg : Gl X "tuple") (hgr : Gl X "range") (hpa : plainX a = true) (ha : PE X a (tE G f)) : PE X (.Call (.Name "tuple" p) [.Call (.Name "range" p2) [a] [] pos2] [] pos) (tE G (semTrg (semCons f fun e => .ok [] e))) := by
  refine PEwk (pe_tupRg F.calm hg (F.blt _ (by decide)) (prg_1 hgr (F.blt _ (by decide)) ha (star_cons hpa))) fun σ H Q ⟨τ, hτ, S, e, rel, lnk, k⟩ => ⟨τ, hτ, S, e, rel, lnk, ?_⟩
  unfold semTrg semCons at k
  cases hf : f e with
  | st => rw [hf] at k; exact k
  | ex x e1 => rw [hf] at k; exact k
  | ok r e1 =>
    rw [hf] at k
    intro x S1 H1 g1 p1 f1
    have k : PR G S H τ e Q (match (ress e1 [r]).bind rngD with
      | some ds => if ds.length ≤ L then .ok (.v (.tuple ds)) e1 else .st
      | none => .st) := k
    split at k
    · rename_i ds hd
      split at k
      · rename_i hl
        obtain ⟨dd, h1, h2⟩ := Option.bind_eq_some_iff.mp hd
        simp only [ress, Option.bind_eq_some_iff, Option.map_eq_some_iff] at h1
        obtain ⟨d, hd1, _, e0, rfl⟩ := h1
        cases e0
        have z := res_ok g1.rel p1 hd1
        unfold rngD at h2
        split at h2
        · rename_i j hj
          cases hj
          split at h2
          · rename_i ok
            cases h2
            obtain rfl := z.int
            have ok' := cd_iff.mp ok
            refine ⟨j, rfl, ⟨ok'.1, ok'.2.1, ok'.2.2.1, ok'.2.2.2, ?_⟩, fun q hq => ?_⟩
            · have : j.toNat ≤ L := by simpa [upto] using hl
              have : L = 2 ^ 24 := by decide
              omega
            · obtain ⟨S3, g2, r2⟩ := g1.tup hq (rpA_upto (K := G.K) (S := S1) 0 j)
              have e0 : upto 0 (j - 0).toNat = upto 0 j.toNat := by simp
              rw [e0] at r2
              exact k _ S3 _ g2 r2 trivial
          · cases h2
        · rename_i hj; cases hj
        · rename_i hj; cases hj
        · cases h2
      · exact k.elim
    · exact k.elim
theorem s_trg2 {cc : Cc} {Φ : Ph} (F : Fit X cc G Φ) {p p2 pos2 : Pos} (hg : Gl X "tuple") (hgr : Gl X "range") (hpa : plainX a = true) (hpb : plainX b = true) (ha : PE X a (tE G f)) (hb : PE X b (tE G g)) :
    PE X (.Call (.Name "tuple" p) [.Call (.Name "range" p2) [a, b] [] pos2] [] pos) (tE G (semTrg (semCons f (semCons g fun e => .ok [] e)))) := by
  refine PEwk (pe_tupRg F.calm hg (F.blt _ (by decide)) (prg_2 hgr (F.blt _ (by decide)) ha hb (star_cons hpa) (star_cons hpb) (star_flags (es := [b]) (by rw [List.all_cons, hpb]; rfl)))) fun σ H Q ⟨τ, hτ, S, e, rel, lnk, k⟩ => ⟨τ, hτ, S, e, rel, lnk, ?_⟩
  unfold semTrg semCons at k
  cases hf : f e with
  | st => rw [hf] at k; exact k
  | ex x e1 => rw [hf] at k; exact k
  | ok r e1 =>
    simp only [hf] at k
    intro x S1 H1 g1 p1 f1
    refine ⟨τ, hτ, S1, e1, g1.rel, lnk.mono g1.sub, ?_⟩
    cases hgg : g e1 with
    | st => simp only [hgg] at k; exact k
    | ex x e2 => simp only [hgg] at k; exact PX.step g1 k
    | ok r' e2 =>
      simp only [hgg] at k
      intro y S2 H2 g2 p2 f2
      have k : PR G S H τ e Q (match (ress e2 [r, r']).bind rngD with
        | some ds => if ds.length ≤ L then .ok (.v (.tuple ds)) e2 else .st
        | none => .st) := k
      split at k
      · rename_i ds hd
        split at k
        · rename_i hl
          obtain ⟨dd, h1, h2⟩ := Option.bind_eq_some_iff.mp hd
          simp only [ress, Option.bind_eq_some_iff, Option.map_eq_some_iff] at h1
          obtain ⟨d, hd1, _, ⟨d', hd2, _, e0, rfl⟩, rfl⟩ := h1
          cases e0
          have z := res_ok g2.rel (p1.grow g2) hd1
          have z' := res_ok g2.rel p2 hd2
          unfold rngD at h2
          split at h2
          · rename_i hj; cases hj
          · rename_i i j hj
            cases hj
            split at h2
            · rename_i ok
              cases h2
              obtain rfl := z.int
              obtain rfl := z'.int
              have ok' := cd_iff.mp ok
              refine ⟨i, j, rfl, rfl, ⟨ok'.1, ok'.2.1, ok'.2.2.1, ok'.2.2.2, ?_⟩, fun q hq => ?_⟩
              · have : (j - i).toNat ≤ L := by simpa [upto] using hl
                have : L = 2 ^ 24 := by decide
                omega
              · obtain ⟨S3, g3, r3⟩ := (g1.trans g2).tup hq (rpA_upto (K := G.K) (S := S2) i j)
                exact k _ S3 _ g3 r3 trivial
            · cases h2
          · rename_i hj; cases hj
          · cases h2
        · exact k.elim
      · exact k.elim
noncomputable def semIsb (ng : Bool) (f g : En → R) (e : En) : R := (f e).bd fun x e1 => (g e1).bd fun y e2 => match res e2 x, res e2 y with
    | some d, some d' => ofB e2 (isbD ng d d')
    | _, _ => .st
def rIb (ng : Bool) : R2 := if ng = true then rNotB else rIsB
theorem s_isb_read (ng : Bool) (σ : L2.St) (H : Hp) (Q : VK) (q : tE G (semIsb ng f g) σ H Q) : tOp (rIb ng) (tE G f) (tE G g) σ H Q := by
  obtain ⟨τ, hτ, S, e, rel, lnk, k⟩ := q
  refine ⟨τ, hτ, S, e, rel, lnk, k.bd fun ra e1 x S1 H1 _ g1 p1 _ k1 => ⟨τ, hτ, S1, e1, g1.rel, lnk.mono g1.sub, (k1.step g1).bd fun rb e2 y S2 H2 _ g2 p2 _ k2 => ?_⟩⟩
  split at k2
  · rename_i d d' hd hd'
    have z := res_ok g2.rel (p1.grow g2) hd
    have z' := res_ok g2.rel p2 hd'
    unfold isbD at k2
    split at k2
    · rename_i a b
      obtain rfl := z.bool
      obtain rfl := z'.bool
      cases ng with
      | true => exact ⟨a, b, rfl, rfl, k2 _ S2 H2 g2 (.bl _) trivial⟩
      | false => exact ⟨a, b, rfl, rfl, k2 _ S2 H2 g2 (.bl _) trivial⟩
    · exact k2.elim
  · exact k2.elim
def isA : Bool → CmpOp
  | true => .IsNot
  | false => .Is
theorem isbR (ng : Bool) : OpR X (compareOp (isA ng)) (rIb ng) := by
  cases ng with
  | true => exact op_notBl
  | false => exact op_isBl
theorem isA_mark (ng : Bool) (h : plainX b = true) : behindInMarks (isA ng) b = false := plain_mark h
theorem s_isb (ng : Bool) (h : plainX b = true) (ha : PE X a (tE G f)) (hb : PE X b (tE G g)) : PE X (.Compare a [isA ng] [b] pos) (tE G (semIsb ng f g)) :=
  PEwk (pe_cmpR (isbR ng) ha hb (isA_mark ng h)) fun σ H Q q => s_isb_read ng σ H Q q
theorem s_isbT (ng : Bool) (h : plainX b = true) (ha : PE X a (tE G f)) (hb : PE X b (tE G g)) : PT X (.Compare a [isA ng] [b] pos) (tT G fun e => asT (semIsb ng f g e)) :=
  PTwk (pt_cmpR (isbR ng) ha hb (isA_mark ng h)) fun σ H Q q => s_isb_read ng σ H _ (asT_read σ H Q q)
theorem vals_pick {xs : List V} {us : List Value} (r : Vals xs us) : ∀ idx : List Nat, Vals (idx.filterMap fun i => xs[i]?) (idx.filterMap fun i => us[i]?)
  | [] => .nil
  | i :: idx => by
    have ih := vals_pick r idx
    cases hx : xs[i]? with
    | some x =>
      obtain ⟨u, hu, ru⟩ := r.get hx
      rw [List.filterMap_cons_some hx, List.filterMap_cons_some hu]
      exact .cons ru ih
    | none =>
      have hu : us[i]? = none := by
        rw [List.getElem?_eq_none_iff] at hx ⊢
        rw [← r.length]; exact hx
      rw [List.filterMap_cons_none hx, List.filterMap_cons_none hu]
      exact ih
theorem rpA_pick {K : Fg} {S : Hp} {xs : List V} {ds : List D} (r : RpA K S xs ds) : ∀ idx : List Nat, RpA K S (idx.filterMap fun i => xs[i]?) (idx.filterMap fun i => ds[i]?)
  | [] => .nil
  | i :: idx => by
    have ih := rpA_pick r idx
    cases hd : ds[i]? with
    | some d =>
      obtain ⟨x, hx, rx⟩ := r.get hd
      rw [List.filterMap_cons_some hd, List.filterMap_cons_some hx]
      exact .cons rx ih
    | none =>
      have hx : xs[i]? = none := by
        rw [List.getElem?_eq_none_iff] at hd ⊢
        rw [r.length]; exact hd
      rw [List.filterMap_cons_none hx, List.filterMap_cons_none hd]
      exact ih
def tSlp (K : Fg) (te : TE) (tl th ts : TO) : TE := fun σ H Q => te σ H fun x H1 => tl σ H1 fun l H2 => th σ H2 fun u H3 => ts σ H3 fun s H4 => ∃ a xs, x = .ref a ∧ SqL K H4 a xs ∧ s ≠ some 0 ∧ ∀ p, H4 p = none → Q (.ref p) (upd H4 p (.lst (pickL xs l u s)))
theorem pe_slp {e : Expr} {te : TE} {tl th ts : TO} {lo hi : Option Expr} {st : Expr} {p3 : Pos} (he : PE X e te) (hl : PO X lo tl) (hu : PO X hi th) (hs : PO X (some st) ts) : PE X (.Subscript e (.Slice lo hi (some st) p3) pos) (tSlp X.K te tl th ts) := by
  refine ⟨fun pins s σ H Q I h => ?_⟩
  refine Subscript_ (thn (he.run pins s σ H _ I h) fun v s1 ⟨x, H1, I1, r1, q1⟩ => ?_)
  refine wpAny_Slice (thn (hl.run pins s1 σ H1 _ I1 q1) fun vl s2 ⟨l, H2, I2, pl, q2⟩ => ?_)
  refine thn (hu.run pins s2 σ H2 _ I2 q2) fun vu s3 ⟨u, H3, I3, pu, q3⟩ => ?_
  refine thn (hs.run pins s3 σ H3 _ I3 q3) fun vs s4 ⟨o, H4, I4, ps, q4⟩ => ?_
  obtain ⟨a, xs, ex, hx, h0, q⟩ := q4
  subst ex
  cases r1
  have I5 : L2.Inv X pins σ H4 { s4 with heap := s4.heap.push { cls := .type "slice", data := .fields #[vl, vu, vs] } } := I4.kept (t' := s4.toks) fun b ob q => Heap.get?_push_of_some _ q
  obtain ⟨its, r, ht, hz⟩ := I5.list hx
  have hlen := r.length
  show wpAny (model X.prog X.w) X.A (subscriptTail e (.Slice lo hi (some st) p3) (.ref a) (.ref s4.heap.objs.size)) (EP X pins σ Q) X.xe { s4 with heap := s4.heap.push { cls := .type "slice", data := .fields #[vl, vu, vs] } }
  refine tail_any (ops := [.ref a, .ref s4.heap.objs.size]) ht.isList.typeIs (PySem.slot_list_getitem.lookup) ?_ (by with_unfolding_all rfl)
  refine wpAny_getItem_list_slice ht.isList (Heap.IsSliceOf.new _ vl vu vs) pl pu ps h0 ?_ (by rw [List.size_toArray]; omega)
  refine ⟨.ref _, _, I5.laid (t' := s4.toks) (o := .lst (pickL xs l u o)) (fun b ob q => Heap.get?_push_of_some _ q) (Nat.le_refl _) ?_, rfl, q _ (I5.hok.fresh (Nat.le_refl _))⟩
  have vp : Vals (pickL xs l u o) (slicePick its.toArray l u o).toList := by
    unfold pickL slicePick
    have := vals_pick r (sliceRange (sliceBounds l u o xs.length).1 (sliceBounds l u o xs.length).2.1 (sliceBounds l u o xs.length).2.2)
    rw [hlen] at this ⊢
    simpa using this
  have sz := slicePick_size_le its.toArray l u o
  refine ⟨?_, (slicePick its.toArray l u o).toList, 0, vp, Heap.get?_push_size _ rfl⟩
  rw [vp.length, Array.length_toList]
  rw [List.size_toArray] at sz
  exact Nat.le_trans sz (by rw [List.size_toArray, ← hlen]; exact hz)
noncomputable def semSlp (f : En → R) (gl hl sl : En → RL) (e : En) : R := (f e).bd fun x e1 => (gl e1).bd fun l e2 => match optI l with
    | none => .st
    | some l' => (hl e2).bd fun h e3 => match optI h with
      | none => .st
      | some h' => (sl e3).bd fun s e4 => match optI s with
        | none => .st
        | some s' => match res e4 x with
          | some d => ofO e4 (slpD d l' h' s')
          | none => .st
theorem s_slp (hK : X.K = G.K) {lo hi : Option Expr} {st : Expr} {gl hl sl : En → RL} {p2 : Pos} (ha : PE X a (tE G f)) (h1 : PO X lo (tP G gl)) (h2 : PO X hi (tP G hl)) (h3 : PO X (some st) (tP G sl)) : PE X (.Subscript a (.Slice lo hi (some st) p2) pos) (tE G (semSlp f gl hl sl)) :=
  PEwk (pe_slp ha h1 h2 h3) fun σ H Q ⟨τ, hτ, S, e, rel, lnk, k⟩ => ⟨τ, hτ, S, e, rel, lnk, k.bd fun ra e1 x S1 H1 _ g1 p1 _ k1 => by
  refine tP_of hτ g1.rel (lnk.mono g1.sub) (k1.step g1) fun e2 o S2 H2 g2 k2 => ?_
  refine tP_of hτ g2.rel ((lnk.mono g1.sub).mono g2.sub) (k2.step g2) fun e3 o' S3 H3 g3 k3 => ?_
  refine tP_of hτ g3.rel (((lnk.mono g1.sub).mono g2.sub).mono g3.sub) (k3.step g3) fun e4 o'' S4 H4 g4 k4 => ?_
  split at k4
  · rename_i d hd
    have z := res_ok g4.rel (((p1.grow g2).grow g3).grow g4) hd
    unfold slpD at k4
    split at k4
    · rename_i xs
      by_cases h0 : o'' ≠ some 0
      · rw [if_pos (by simpa using h0)] at k4
        obtain ⟨b, ys, rfl, b1, b2⟩ := z.lst g4.rel.sub
        rw [hK]
        refine ⟨b, ys, rfl, sqL_of b1, h0, fun p hp => ?_⟩
        have pk : RpA G.K S4 (pickL ys o o' o'') (pickL xs o o' o'') := by
          unfold pickL
          rw [b2.length]
          exact rpA_pick b2 _
        obtain ⟨g5, r5, f5⟩ := g4.lst hp pk
        exact k4 _ S4 _ g5 r5 f5
      · rw [if_neg (by simpa using h0)] at k4
        exact k4.elim
    · exact k4.elim
  · exact k4.elim⟩
end
end Vc
end
section
set_option Elab.async false
set_option linter.all false
namespace Vc
open PySem PySem.Spec PyProof.Rows L2
variable [XrC]
theorem kt_len (a : Addr) : Builtin.«list.sort» ⟨[.ref a], [(Str.ofString "key", .builtin "len")]⟩ = ksk_tree a (.builtin "len") false := ksk_t4 "len" a
def VRp (K : Fg) (S : Hp) (v : Value) (d : D) : Prop := ∃ x : V, RelV x v ∧ Rp K S x d
theorem vrp_of {K : Fg} {S : Hp} : ∀ {xs : List V} {ds : List D} {us : List Value}, RpA K S xs ds → Vals xs us → PySem.W.EachIs (VRp K S) us ds
  | _, _, _, .nil, .nil => .nil
  | _, _, _, .cons a t, .cons r u => .cons ⟨_, r, a⟩ (vrp_of t u)
theorem vrp_to {K : Fg} {S : Hp} : ∀ {us : List Value} {ds : List D}, PySem.W.EachIs (VRp K S) us ds → ∃ xs : List V, RpA K S xs ds ∧ Vals xs us
  | _, _, .nil => ⟨[], .nil, .nil⟩
  | _, _, .cons ⟨x, r, a⟩ t => by
    obtain ⟨xs, h1, h2⟩ := vrp_to t
    exact ⟨x :: xs, .cons a h1, .cons r h2⟩
theorem lenLe_is : (fun a b : D => decide ((lenD a).getD 0 ≤ (lenD b).getD 0)) = lenLe := rfl
section
variable {X : Cx} {G : Gx} {a : Expr} {pos : Pos} {f : En → R}
/-- the key of an item -/
theorem len_key {pins : List (Addr × Obj)} {σ : L2.St} {H S : Hp} {s : Shared} {v : Value} {d : D} {n : Int} {A : Around} (I : L2.Inv X pins σ H s) (sb : Sub S H) (r : VRp X.K S v d) (hd : lenD d = some n) (h : Heap) (tk : Nat) (kp : ∀ b o, s.heap.get? b = some o → h.get? b = some o) :
    wpAny (model X.prog X.w) A (call (.builtin "len") [v]) (PySem.W.KeyPure (.int n) { s with heap := h, toks := tk }) (fun _ _ => False) { s with heap := h, toks := tk } := by
  obtain ⟨x, rx, rp⟩ := r
  have hn := line63
  cases rp with
  | lst h1 h2 =>
    cases rx
    simp only [lenD, Option.some.injEq] at hd
    obtain ⟨its, r', pl, hz⟩ := I.list (sqL_of (sb _ _ h1))
    obtain ⟨o, ho, hc, m, hdat⟩ := pl.isList
    have hlen := r'.length
    have hl2 := h2.length
    refine Calls.call_len_list ⟨o, kp _ _ ho, hc, m, hdat⟩ (by simp only [List.size_toArray]; omega) ⟨h, _, rfl, fun _ _ z => z, ?_⟩
    have e : ((its.toArray.size : Nat) : Int) = n := by rw [← hd, List.size_toArray, ← hlen, hl2]
    rw [e]
    exact .int _ _
  | tup h1 h2 =>
    cases rx
    simp only [lenD, Option.some.injEq] at hd
    obtain ⟨its, r', ⟨o, ho, hc, m, hdat⟩, hz⟩ := I.tuple (sb.sqT h1)
    have hlen := r'.length
    have hl2 := h2.length
    refine len_tuple ⟨o, kp _ _ ho, hc, m, hdat⟩ (by simp only [List.size_toArray]; omega) ⟨h, _, rfl, fun _ _ z => z, ?_⟩
    have e : ((its.toArray.size : Nat) : Int) = n := by rw [← hd, List.size_toArray, ← hlen, hl2]
    rw [e]
    exact .int _ _
  | non => simp [lenD] at hd
  | bl _ => simp [lenD] at hd
  | int _ => simp [lenD] at hd
  | str _ => simp [lenD] at hd
  | dct _ => simp [lenD] at hd
noncomputable def semSrk (f : En → R) (e : En) : R := (f e).bd fun x e1 => match res e1 x with
    | some d => ofO e1 (srkD d)
    | none => .st
theorem s_srk {c : Cc} {Φ : Ph} (F : Fit X c G Φ) {p p2 kp : Pos} (hg : Gl X "sorted") (hgl : Gl X "len") (hpa : plainX a = true) (ha : PE X a (tE G f)) : PE X (.Call (.Name "sorted" p) [a] [⟨some "key", .Name "len" p2, kp⟩] pos) (tE G (semSrk f)) := by
  have hm : X.mg "sorted" = none := F.blt _ (by decide)
  have hml : X.mg "len" = none := F.blt _ (by decide)
  refine ⟨fun pins s σ H Q I h => ?_⟩
  refine wpAny_Call_Name_kw (ld_blt I hg hm (u := .builtin "sorted") (by decide +kernel) ?_ (by decide) (by decide))
  have rd : tE G f σ H (fun x H1 => ∃ S1 d r, Sub S1 H1 ∧ Rz G.K S1 H1 x d ∧ srkD d = some r ∧ Dl G.K S1 H1 r Q) := by
    obtain ⟨τ, hτ, S, e, rel, lnk, k⟩ := h
    refine ⟨τ, hτ, S, e, rel, lnk, k.bd fun r e1 x S1 H1 _ g1 p1 _ k1 => ?_⟩
    split at k1
    · rename_i d hd
      cases hr : srkD d with
      | none => rw [hr] at k1; exact k1.elim
      | some r => rw [hr] at k1; exact ⟨S1, d, r, g1.rel.sub, res_ok g1.rel p1 hd, hr, Dl.of g1 k1⟩
    · exact k1.elim
  refine PyProof.Rows.callWith_kw (thn ((pa_cons ha pa_nil (star_cons hpa)).run pos pins s σ H (fun vs H1 => ∃ x, vs = [x] ∧ ∃ S1 d r, Sub S1 H1 ∧ Rz G.K S1 H1 x d ∧ srkD d = some r ∧ Dl G.K S1 H1 r Q) I ?_) fun us s1 ⟨vs, H1, I1, r1, x, ev, S1, d, r, sb, rz, hr, dl⟩ => ?_) (by rw [star_cons hpa]; rfl) (by rw [star_cons hpa]; rfl)
  · obtain ⟨τ, hτ, S, e, rel, lnk, k⟩ := rd
    refine ⟨τ, hτ, S, e, rel, lnk, ?_⟩
    cases hf : f e with
    | st => rw [hf] at k; exact k
    | ex x e1 => rw [hf] at k; exact k
    | ok r e1 => rw [hf] at k; exact fun x S' H' g p fr => ⟨x, rfl, k x S' H' g p fr⟩
  · subst ev
    obtain ⟨u, rfl, rx⟩ := vals1 r1
    show wpAny _ _ (evalAll [(do let v ← eval (.Name "len" p2) X.env; standAt pos; pure v)]) _ _ _
    refine wpAny_evalAll_cons (wpAny_bind (ld_blt I1 hgl hml (u := .builtin "len") (by decide +kernel) (wpAny_bind (wpAny_standAt (wpAny_pure (wpAny_evalAll_nil ?_)))) (by decide) (by decide)))
    show wpAny _ _ (call (.builtin "sorted") [u] [(Str.ofString "key", .builtin "len")]) _ _ _
    unfold srkD at hr
    split at hr
    · rename_i ds
      split at hr
      · rename_i hall
        cases hr
        obtain ⟨p, xs, rfl, a1, a2⟩ := rz.lst sb
        cases rx
        obtain ⟨its, rv, pl, hz⟩ := I1.list (sqL_of a1)
        have hK := F.K
        rw [← hK] at a2
        have each := vrp_of a2 rv
        have key : ∀ d ∈ ds, ∃ n, lenD d = some n := fun d hd => Option.isSome_iff_exists.mp (List.all_eq_true.mp hall d hd)
        refine PySem.W.sorted_key_data (b := false) (fun d => .int ((lenD d).getD 0)) pl.isList each (PySem.W.AllAlike.of fun _ _ => by simp [PySem.W.alike]) (.inr fun d hd => ?_) (by rw [← a2.length]; exact hz) (fun d _ => ?_) (ksk_s1 _ _) (fun _ => ksk_l1 _ _) (fun a => kt_len a)
          (fun v d hR hd h tk kp => ?_) fun out c h' tk kp fr hD hl eo => ?_
        · obtain ⟨d', _, rfl⟩ := List.mem_map.mp hd
          exact ⟨by simp, fun xs => by simp⟩
        · have hu := F.un
          simp [PyData.depth]
          omega
        · obtain ⟨n, hn⟩ := key d hd
          rw [hn]
          exact len_key I1 sb hR hn h tk kp
        · rw [PySem.W.dataLe_int (fun d => (lenD d).getD 0)] at eo
          rw [lenLe_is] at eo
          obtain ⟨ys, ry, vy⟩ := vrp_to eo
          have hlen : ys.length ≤ sizeLine := by rw [vy.length, hl, ← a2.length]; exact hz
          have hpn : H1 (s1.heap.objs.size + 1) = none := I1.hok.fresh (Nat.le_succ _)
          rw [hK] at ry
          exact ⟨.ref _, upd H1 (s1.heap.objs.size + 1) (.lst ys), I1.laid (t' := tk) kp (Nat.le_succ _) ⟨hlen, out, c, vy, hD⟩, rfl, dl.lst hpn ry⟩
      · cases hr
    · cases hr
end
end Vc
end
section
set_option Elab.async false
set_option linter.all false
namespace Vc
open PySem PySem.Spec PyProof.Rows L2
variable [XrC]
section
variable {X : Cx} {G : Gx} {a b c : Expr} {es : List Expr} {pos : Pos} {f g h : En → R}
noncomputable def semKdi (ng : Bool) (K : List (Str × D)) (f : En → R) (e : En) : R := (f e).bd fun x e1 => match x with
    | .v (.str z) => .ok (.v (.bool (ng != (K.lookup z).isSome))) e1
    | _ => .st
noncomputable def semKdx (K : List (Str × D)) (f : En → R) (e : En) : R := (f e).bd fun x e1 => match x with
    | .v (.str z) => match K.lookup z with
      | some d => .ok (.v d) e1
      | none => .st
    | _ => .st
def inA : Bool → CmpOp
  | true => .NotIn
  | false => .In
def rKdi (K : Fg) (d : Addr) (ng : Bool) : R2 := fun x y H Q => ∃ (z : Str) (r : Option Value), x = .str z ∧ y = .ref d ∧ PySem.W.nsIn K d z = some r ∧ Q (.bl (ng != r.isSome)) H
theorem kdiR {d : Addr} {es : Array DictEntry} {n : Nat} (Dk : KDict X.K X.w d es n) (ng : Bool) : OpR X (compareOp (inA ng)) (rKdi X.K d ng) := by
  cases ng with
  | false =>
    intro pins s σ H x y v u Q I rx ry ⟨z, r, h1, h2, h3, h4⟩
    exact op_in_kd Dk pins s σ H x y v u Q I rx ry ⟨z, r, h1, h2, h3, by cases r <;> exact h4⟩
  | true =>
    intro pins s σ H x y v u Q I rx ry ⟨z, r, h1, h2, h3, h4⟩
    exact op_notIn_kd Dk pins s σ H x y v u Q I rx ry ⟨z, r, h1, h2, h3, by cases r <;> exact h4⟩
theorem kd_at {c : Cc} {Φ : Ph} (F : Fit X c G Φ) {x : Str} {dd : D} {K : List (Str × D)} (hx : c.con.lookup x = some dd) (hk : kdOf dd = some K) : KdAt X.K X.w X.mg x K := by
  have q := F.con x dd hx
  unfold ConAt at q
  rw [hk] at q
  exact q
theorem s_kdi_read (hK : X.K = G.K) {d : Addr} {K : List (Str × D)} {ng : Bool} (hz : ∀ z, match K.lookup z with
    | none => PySem.W.nsIn X.K d z = some none
    | some dd => ∃ u v, PySem.W.nsIn X.K d z = some (some u) ∧ L2.RelV v u ∧ ∀ S, Rp X.K S v dd) (σ : L2.St) (H : Hp) (Q : VK) (q : tE G (semKdi ng K f) σ H Q) : tOp (rKdi X.K d ng) (tE G f) (tC (.ref d)) σ H Q := by
  obtain ⟨τ, hτ, S, e, rel, lnk, k⟩ := q
  refine ⟨τ, hτ, S, e, rel, lnk, k.bd fun r e1 x S1 H1 q1 g1 p1 f1 k1 => ?_⟩
  split at k1
  · rename_i z
    cases p1
    have h := hz z
    revert h k1
    cases K.lookup z with
    | none => exact fun k1 h => ⟨z, none, rfl, rfl, h, k1 _ S1 H1 g1 (.bl _) trivial⟩
    | some dd => exact fun k1 ⟨u, v, h, _⟩ => ⟨z, some u, rfl, rfl, h, k1 _ S1 H1 g1 (.bl _) trivial⟩
  · exact k1.elim
theorem s_kdi {cc : Cc} {Φ : Ph} (F : Fit X cc G Φ) {x : Str} {dd : D} {K : List (Str × D)} {p : Pos} (ng : Bool) (hx : cc.con.lookup x = some dd) (hk : kdOf dd = some K) (hg : Gl X x) (hdb : (x == ("__debug__" : Str)) = false) (ha : PE X a (tE G f)) :
    PE X (.Compare a [inA ng] [.Name x p] pos) (tE G (semKdi ng K f)) ∧ PT X (.Compare a [inA ng] [.Name x p] pos) (tT G fun e => asT (semKdi ng K f e)) := by
  obtain ⟨d, en, n, h1, Dk, hz⟩ := kd_at F hx hk
  have hb : PE X (.Name x p) (tC (.ref d)) := pe_glob hg h1 rfl hdb
  exact ⟨PEwk (pe_cmpR (kdiR Dk ng) ha hb (plain_mark rfl)) fun σ H Q q => s_kdi_read F.K hz σ H Q q, PTwk (pt_cmpR (kdiR Dk ng) ha hb (plain_mark rfl)) fun σ H Q q => s_kdi_read F.K hz σ H _ (asT_read σ H Q q)⟩
theorem s_kdx {cc : Cc} {Φ : Ph} (F : Fit X cc G Φ) {x : Str} {dd : D} {K : List (Str × D)} {p : Pos} (hx : cc.con.lookup x = some dd) (hk : kdOf dd = some K) (hg : Gl X x) (hdb : (x == ("__debug__" : Str)) = false) (hp : plainX a = true) (ha : PE X a (tE G f)) :
    PE X (.Subscript (.Name x p) a pos) (tE G (semKdx K f)) := by
  obtain ⟨d, en, n, h1, Dk, hz⟩ := kd_at F hx hk
  have hb : PE X (.Name x p) (tC (.ref d)) := pe_glob hg h1 rfl hdb
  refine PEwk (pe_ix ix_kdict hb ha (plain_ix hp)) fun σ H Q ⟨τ, hτ, S, e, rel, lnk, k⟩ => ?_
  refine ⟨τ, hτ, S, e, rel, lnk, k.bd fun r e1 y S1 H1 q1 g1 p1 f1 k1 => ?_⟩
  split at k1
  · rename_i z
    cases p1
    have h := hz z
    revert h k1
    cases K.lookup z with
    | none => exact fun k1 h => k1.elim
    | some dd => exact fun k1 ⟨u, v, h, h2, h3⟩ => ⟨d, z, v, rfl, rfl, ⟨en, n, u, Dk.at_, Dk.lit, h, h2⟩, k1 _ S1 H1 g1 (by rw [← F.K]; exact h3 _) trivial⟩
  · exact k1.elim

noncomputable def semFmt (f : En → R) (e : En) : R := (f e).bd fun x e1 => match res e1 x with
    | some d => ofO e1 (fmtD d)
    | none => .st
theorem s_fmt {pos : Pos} (ha : PE X a (tE G f)) : PE X (.FormattedValue a (-1) none pos) (tE G (semFmt f)) := by
  refine PEwk (pe_fmt ha) fun σ H Q ⟨τ, hτ, S, e, rel, lnk, k⟩ => ⟨τ, hτ, S, e, rel, lnk, k.bd fun r e1 x S1 H1 q1 g1 p1 f1 k1 => ?_⟩
  split at k1
  · rename_i d hd
    have z := res_ok g1.rel p1 hd
    unfold fmtD at k1
    split at k1
    · split at k1
      · rename_i hl
        exact .inl ⟨_, z.str, hl, k1 _ S1 H1 g1 (.str _) trivial⟩
      · exact k1.elim
    · split at k1
      · rename_i hl
        exact .inr ⟨_, z.int, hl, k1 _ S1 H1 g1 (.str _) trivial⟩
      · exact k1.elim
    · exact k1.elim
  · exact k1.elim
noncomputable def semJn (f : En → R) (g : Str → En → R) (acc : Str) (e : En) : R := (f e).bd fun x e1 => match x with
    | .v (.str y) => if (acc ++ y).length ≤ L then g (acc ++ y) e1 else .st
    | _ => .st
/-- parts of an f-string, behind a text -/
def SJ (X : Cx) (G : Gx) (vs : List Expr) (g : Str → En → R) : Prop := ∃ ts, PJ X vs ts ∧ ∀ acc σ H (Q : VK), tE G (g acc) σ H Q → tJs ts acc σ H fun out H1 => Q (.str out) H1
theorem sj_nil : SJ X G [] fun acc e => .ok (.v (.str acc)) e := ⟨[], .nil, fun acc σ H Q ⟨τ, hτ, S, e, rel, lnk, k⟩ => k _ S H rel.grow (.str _) trivial⟩
theorem sj_cons {vs : List Expr} {g : Str → En → R} (ha : PE X a (tE G f)) (hr : SJ X G vs g) : SJ X G (a :: vs) (semJn f g) := by
  obtain ⟨ts, h1, h2⟩ := hr
  refine ⟨_ :: ts, .cons ha h1, fun acc σ H Q ⟨τ, hτ, S, e, rel, lnk, k⟩ => ⟨τ, hτ, S, e, rel, lnk, k.bd fun r e1 x S1 H1 q1 g1 p1 f1 k1 => ?_⟩⟩
  split at k1
  · rename_i y
    cases p1
    split at k1
    · rename_i hl
      exact ⟨y, rfl, hl, h2 _ σ H1 Q ⟨τ, hτ, S1, e1, g1.rel, lnk.mono g1.sub, PR.step g1 k1⟩⟩
    · exact k1.elim
  · exact k1.elim
theorem s_jn {vs : List Expr} {g : Str → En → R} (hl : 2 ≤ vs.length) (h : SJ X G vs g) : PE X (.JoinedStr vs pos) (tE G (g Str.empty)) := by
  obtain ⟨ts, h1, h2⟩ := h
  match vs, hl with
  | v1 :: v2 :: rest, _ => exact PEwk (pe_joined h1) fun σ H Q q => h2 _ σ H Q q
end
end Vc
end
section
set_option Elab.async false
set_option linter.all false
namespace Vc
open PySem PySem.Spec PyProof.Rows L2
variable [XrC]
section
variable {K : Fg} {S0 H0 : Hp} {σ σ0 : L2.St} {e0 : En}
theorem prep_ok : ∀ {ms : List Md} {rs rs1 : List RV} {xs : List V} {S H : Hp} {e e1 : En}, Grow K S0 H0 σ0 e0 S H σ e → RepRs K S H σ e rs xs → FrsA H0 σ0 e0 rs xs → prep ms rs e = some (rs1, e1) →
    ∃ S', Grow K S0 H0 σ0 e0 S' H σ e1 ∧ Sub S S' ∧ RepRs K S' H σ e1 rs1 xs ∧ FrsA H0 σ0 e0 rs1 xs ∧ (∀ r' x', RepR K S H σ e r' x' → (∀ ds', r' = .o ds' → NoO x' rs xs) → RepR K S' H σ e1 r' x') ∧ ∀ x', NoO x' rs xs → NoO x' rs1 xs
  | [], [], rs1, [], S, H, e, e1, g, .nil, .nil, h => by
    simp [prep] at h; obtain ⟨rfl, rfl⟩ := h
    exact ⟨S, g, Sub.rfl', .nil, .nil, fun _ _ z _ => z, fun _ z => z⟩
  | [], _ :: _, _, _, _, _, _, _, _, _, _, h => by simp [prep] at h
  | .v :: ms, [], _, _, _, _, _, _, _, _, _, h => by simp [prep] at h
  | .m :: ms, [], _, _, _, _, _, _, _, _, _, h => by simp [prep] at h
  | .f :: ms, [], _, _, _, _, _, _, _, _, _, h => by simp [prep] at h
  | .q :: ms, [], _, _, _, _, _, _, _, _, _, h => by simp [prep] at h
  | .v :: ms, r :: rs, rs1, x :: xs, S, H, e, e1, g, .cons a n t, .cons f ft, h => by
    simp only [prep, Option.bind_eq_some_iff, Option.map_eq_some_iff] at h
    obtain ⟨⟨d, e2⟩, h1, ⟨rs2, e3⟩, h2, h3⟩ := h
    cases h3
    obtain ⟨S1, g1, s1, p1, k1⟩ := toV_ok g a f h1
    have t1 : RepRs K S1 H σ e2 rs xs := by
      have key : ∀ {rs : List RV} {xs : List V}, RepRs K S H σ e rs xs → (∀ ds, r = .o ds → NoO x rs xs) → RepRs K S1 H σ e2 rs xs := by
        intro rs xs q
        induction q with
        | nil => exact fun _ => .nil
        | cons b m u ih =>
          intro no
          refine .cons (k1 _ _ b fun ds ds' e1 e2 z => ?_) m (ih fun ds hr j es hj => no ds hr (j + 1) es (by simpa using hj))
          subst z
          exact no ds e1 0 ds' (by simp [e2]) (by simp)
      exact key t n
    obtain ⟨S2, g2, s2, t2, f2, k2, n2⟩ := prep_ok g1 t1 ft h2
    refine ⟨S2, g2, s1.tr s2, .cons (p1.mono s2) (fun ds z => by cases z) t2, .cons trivial f2, fun r' x' z no => k2 r' x' (k1 r' x' z fun ds ds' z1 z2 z3 => ?_) fun ds' z1 j es hj => no ds' z1 (j + 1) es (by simpa using hj), fun x' no j es hj => ?_⟩
    · subst z3
      exact no ds' z2 0 ds (by simp [z1]) (by simp)
    · cases j with
      | zero => simp at hj
      | succ j => simpa using n2 x' (fun j es hj => by simpa using no (j + 1) es (by simpa using hj)) j es (by simpa using hj)
  | .m :: ms, r :: rs, rs1, x :: xs, S, H, e, e1, g, .cons a n t, .cons f ft, h => by
    simp only [prep, Option.map_eq_some_iff] at h
    obtain ⟨⟨rs2, e3⟩, h2, h3⟩ := h
    cases h3
    obtain ⟨S2, g2, s2, t2, f2, k2, n2⟩ := prep_ok g t ft h2
    refine ⟨S2, g2, s2, .cons (k2 _ _ a n) (fun ds z => n2 _ (n ds z)) t2, .cons f f2, fun r' x' z no => k2 r' x' z fun ds' z1 j es hj => no ds' z1 (j + 1) es (by simpa using hj), fun x' no j es hj => ?_⟩
    cases j with
    | zero => exact no 0 es (by simpa using hj)
    | succ j => simpa using n2 x' (fun j es hj => by simpa using no (j + 1) es (by simpa using hj)) j es (by simpa using hj)
  | .f :: ms, r :: rs, rs1, x :: xs, S, H, e, e1, g, .cons a n t, .cons f ft, h => by
    simp only [prep, Option.map_eq_some_iff] at h
    obtain ⟨⟨rs2, e3⟩, h2, h3⟩ := h
    cases h3
    obtain ⟨S2, g2, s2, t2, f2, k2, n2⟩ := prep_ok g t ft h2
    refine ⟨S2, g2, s2, .cons (k2 _ _ a n) (fun ds z => n2 _ (n ds z)) t2, .cons f f2, fun r' x' z no => k2 r' x' z fun ds' z1 j es hj => no ds' z1 (j + 1) es (by simpa using hj), fun x' no j es hj => ?_⟩
    cases j with
    | zero => exact no 0 es (by simpa using hj)
    | succ j => simpa using n2 x' (fun j es hj => by simpa using no (j + 1) es (by simpa using hj)) j es (by simpa using hj)
  | .q :: ms, r :: rs, rs1, x :: xs, S, H, e, e1, g, .cons a n t, .cons f ft, h => by
    simp only [prep, Option.map_eq_some_iff] at h
    obtain ⟨⟨rs2, e3⟩, h2, h3⟩ := h
    cases h3
    obtain ⟨S2, g2, s2, t2, f2, k2, n2⟩ := prep_ok g t ft h2
    refine ⟨S2, g2, s2, .cons (k2 _ _ a n) (fun ds z => n2 _ (n ds z)) t2, .cons f f2, fun r' x' z no => k2 r' x' z fun ds' z1 j es hj => no ds' z1 (j + 1) es (by simpa using hj), fun x' no j es hj => ?_⟩
    cases j with
    | zero => exact no 0 es (by simpa using hj)
    | succ j => simpa using n2 x' (fun j es hj => by simpa using no (j + 1) es (by simpa using hj)) j es (by simpa using hj)

/-- what an argument is made of -/
def AvIs (e : En) : Md → RV → AV → Prop
  | .v, r, .v d => r = .v d
  | .m, r, .m ds => r = .o ds ∨ ∃ k : Nat, r = .b k ∧ e[k]? = some (Sl.o ds)
  | .f, r, .f ds => ∃ k : Nat, r = .b k ∧ e[k]? = some (Sl.f ds)
  | .q, _, .q => True
  | _, _, _ => False
theorem avs_len {e : En} : ∀ {ms : List Md} {rs : List RV} {as : List AV}, avs e ms rs = some as → as.length = rs.length ∧ ms.length = rs.length
  | [], [], as, h => by simp [avs] at h; subst h; exact ⟨rfl, rfl⟩
  | [], r :: _, _, h => by cases r <;> simp [avs] at h
  | m :: _, [], _, h => by cases m <;> simp [avs] at h
  | .v :: ms, .v d :: rs, as, h => by
    simp only [avs, Option.map_eq_some_iff] at h
    obtain ⟨as', h1, rfl⟩ := h
    obtain ⟨a, b⟩ := avs_len h1
    exact ⟨by simp [a], by simp [b]⟩
  | .v :: ms, .b i :: rs, as, h => by simp [avs] at h
  | .v :: ms, .o i :: rs, as, h => by simp [avs] at h
  | .m :: ms, .v i :: rs, as, h => by simp [avs] at h
  | .m :: ms, .o i :: rs, as, h => by
    simp only [avs, Option.map_eq_some_iff] at h
    obtain ⟨as', h1, rfl⟩ := h
    obtain ⟨a, b⟩ := avs_len h1
    exact ⟨by simp [a], by simp [b]⟩
  | .m :: ms, .b i :: rs, as, h => by
    simp only [avs] at h
    split at h
    · simp only [Option.map_eq_some_iff] at h
      obtain ⟨as', h1, rfl⟩ := h
      obtain ⟨a, b⟩ := avs_len h1
      exact ⟨by simp [a], by simp [b]⟩
    · cases h
  | .f :: ms, .v i :: rs, as, h => by simp [avs] at h
  | .f :: ms, .o i :: rs, as, h => by simp [avs] at h
  | .f :: ms, .b i :: rs, as, h => by
    simp only [avs] at h
    split at h
    · simp only [Option.map_eq_some_iff] at h
      obtain ⟨as', h1, rfl⟩ := h
      obtain ⟨a, b⟩ := avs_len h1
      exact ⟨by simp [a], by simp [b]⟩
    · cases h
  | .q :: ms, .v i :: rs, as, h => by simp [avs] at h
  | .q :: ms, .o i :: rs, as, h => by simp [avs] at h
  | .q :: ms, .b i :: rs, as, h => by
    simp only [avs, Option.map_eq_some_iff] at h
    obtain ⟨as', h1, rfl⟩ := h
    obtain ⟨a, b⟩ := avs_len h1
    exact ⟨by simp [a], by simp [b]⟩
theorem avs_get {e : En} : ∀ {ms : List Md} {rs : List RV} {as : List AV} {j : Nat} {av : AV}, avs e ms rs = some as → as[j]? = some av → ∃ m r, ms[j]? = some m ∧ rs[j]? = some r ∧ AvIs e m r av
  | [], [], as, j, av, h, hj => by simp [avs] at h; subst h; simp at hj
  | [], r :: _, _, _, _, h, _ => by cases r <;> simp [avs] at h
  | m :: _, [], _, _, _, h, _ => by cases m <;> simp [avs] at h
  | .v :: ms, .v d :: rs, as, j, av, h, hj => by
    simp only [avs, Option.map_eq_some_iff] at h
    obtain ⟨as', h1, rfl⟩ := h
    cases j with
    | zero => simp at hj; subst hj; exact ⟨.v, .v d, rfl, rfl, rfl⟩
    | succ j => simpa using avs_get (j := j) h1 (by simpa using hj)
  | .v :: ms, .b i :: rs, as, _, _, h, _ => by simp [avs] at h
  | .v :: ms, .o i :: rs, as, _, _, h, _ => by simp [avs] at h
  | .m :: ms, .v i :: rs, as, _, _, h, _ => by simp [avs] at h
  | .q :: ms, .v i :: rs, as, _, _, h, _ => by simp [avs] at h
  | .q :: ms, .o i :: rs, as, _, _, h, _ => by simp [avs] at h
  | .q :: ms, .b i :: rs, as, j, av, h, hj => by
    simp only [avs, Option.map_eq_some_iff] at h
    obtain ⟨as', h1, rfl⟩ := h
    cases j with
    | zero => simp at hj; subst hj; exact ⟨.q, .b i, rfl, rfl, trivial⟩
    | succ j => simpa using avs_get (j := j) h1 (by simpa using hj)
  | .m :: ms, .o i :: rs, as, j, av, h, hj => by
    simp only [avs, Option.map_eq_some_iff] at h
    obtain ⟨as', h1, rfl⟩ := h
    cases j with
    | zero => simp at hj; subst hj; exact ⟨.m, .o i, rfl, rfl, .inl rfl⟩
    | succ j => simpa using avs_get (j := j) h1 (by simpa using hj)
  | .m :: ms, .b i :: rs, as, j, av, h, hj => by
    simp only [avs] at h
    split at h
    · rename_i ds hi
      simp only [Option.map_eq_some_iff] at h
      obtain ⟨as', h1, rfl⟩ := h
      cases j with
      | zero => simp at hj; subst hj; exact ⟨.m, .b i, rfl, rfl, .inr ⟨i, rfl, hi⟩⟩
      | succ j => simpa using avs_get (j := j) h1 (by simpa using hj)
    · cases h
  | .f :: ms, .v i :: rs, as, _, _, h, _ => by simp [avs] at h
  | .f :: ms, .o i :: rs, as, _, _, h, _ => by simp [avs] at h
  | .f :: ms, .b i :: rs, as, j, av, h, hj => by
    simp only [avs] at h
    split at h
    · rename_i ds hi
      simp only [Option.map_eq_some_iff] at h
      obtain ⟨as', h1, rfl⟩ := h
      cases j with
      | zero => simp at hj; subst hj; exact ⟨.f, .b i, rfl, rfl, ⟨i, rfl, hi⟩⟩
      | succ j => simpa using avs_get (j := j) h1 (by simpa using hj)
    · cases h
theorem lent_mem : ∀ {ms : List Md} {rs : List RV} {j k : Nat}, ms[j]? = some .m → rs[j]? = some (.b k) → k ∈ lent ms rs
  | [], _, j, k, h, _ => by simp at h
  | _ :: _, [], j, k, _, h => by simp at h
  | m :: ms, r :: rs, 0, k, h, h' => by
    simp at h h'; subst h h'; simp [lent]
  | m :: ms, r :: rs, j + 1, k, h, h' => by
    have := lent_mem (ms := ms) (rs := rs) (j := j) (k := k) (by simpa using h) (by simpa using h')
    cases m <;> cases r <;> simp [lent, this]
theorem lent_one : ∀ {ms : List Md} {rs : List RV} {i j k : Nat}, (lent ms rs).Nodup → ms[i]? = some .m → rs[i]? = some (.b k) → ms[j]? = some .m → rs[j]? = some (.b k) → i = j
  | [], _, i, _, _, _, h, _, _, _ => by simp at h
  | _ :: _, [], _, _, _, _, _, h, _, _ => by simp at h
  | m :: ms, r :: rs, 0, 0, k, _, _, _, _, _ => rfl
  | m :: ms, r :: rs, 0, j + 1, k, n, h1, h2, h3, h4 => by
    simp at h1 h2; subst h1 h2
    have := lent_mem (ms := ms) (rs := rs) (j := j) (k := k) (by simpa using h3) (by simpa using h4)
    simp only [lent, List.nodup_cons] at n
    exact absurd this n.1
  | m :: ms, r :: rs, i + 1, 0, k, n, h1, h2, h3, h4 => by
    simp at h3 h4; subst h3 h4
    have := lent_mem (ms := ms) (rs := rs) (j := i) (k := k) (by simpa using h1) (by simpa using h2)
    simp only [lent, List.nodup_cons] at n
    exact absurd this n.1
  | m :: ms, r :: rs, i + 1, j + 1, k, n, h1, h2, h3, h4 => by
    have n' : (lent ms rs).Nodup := by
      cases m <;> cases r <;> simp only [lent, List.nodup_cons] at n <;> first | exact n | exact n.2
    exact congrArg (· + 1) (lent_one (ms := ms) (rs := rs) (i := i) (j := j) (k := k) n' (by simpa using h1) (by simpa using h2) (by simpa using h3) (by simpa using h4))
theorem putB_len : ∀ {ms : List Md} {rs : List RV} {fs : List Sl} {e : En}, (putB ms rs fs e).length = e.length
  | [], _, _, _ => by simp [putB]
  | m :: ms, [], _, _ => by cases m <;> simp [putB]
  | m :: ms, r :: rs, [], _ => by cases m <;> cases r <;> simp [putB]
  | m :: ms, r :: rs, f :: fs, e => by cases m <;> cases r <;> simp only [putB] <;> first | exact putB_len | exact putB_len.trans (List.length_set ..)
theorem putB_miss : ∀ {ms : List Md} {rs : List RV} {fs : List Sl} {e : En} {k : Nat}, (∀ j : Nat, ms[j]? = some Md.m → rs[j]? ≠ some (RV.b k)) → (putB ms rs fs e)[k]? = e[k]?
  | [], _, _, _, _, _ => by simp [putB]
  | m :: ms, [], _, _, _, _ => by cases m <;> simp [putB]
  | m :: ms, r :: rs, [], _, _, _ => by cases m <;> cases r <;> simp [putB]
  | m :: ms, r :: rs, f :: fs, e, k, h => by
    have h' : ∀ j : Nat, ms[j]? = some Md.m → rs[j]? ≠ some (RV.b k) := fun j a b => h (j + 1) (by simpa using a) (by simpa using b)
    cases m <;> cases r <;> simp only [putB] <;> rw [putB_miss h']
    rename_i i
    exact List.getElem?_set_ne (fun z => h 0 rfl (by simp [z]))
theorem putB_hit : ∀ {ms : List Md} {rs : List RV} {fs : List Sl} {e : En} {j k : Nat} {s : Sl}, (lent ms rs).Nodup → ms[j]? = some .m → rs[j]? = some (.b k) → fs[j]? = some s → k < e.length → (putB ms rs fs e)[k]? = some s
  | [], _, _, _, _, _, _, _, h, _, _, _ => by simp at h
  | _ :: _, [], _, _, _, _, _, _, _, h, _, _ => by simp at h
  | _ :: _, _ :: _, [], _, _, _, _, _, _, _, h, _ => by simp at h
  | m :: ms, r :: rs, f :: fs, e, 0, k, s, n, h1, h2, h3, hl => by
    simp at h1 h2 h3; subst h1 h2 h3
    simp only [lent, List.nodup_cons] at n
    simp only [putB]
    rw [putB_miss fun j a b => n.1 (lent_mem a b)]
    exact List.getElem?_set_self hl
  | m :: ms, r :: rs, f :: fs, e, j + 1, k, s, n, h1, h2, h3, hl => by
    have n' : (lent ms rs).Nodup := by
      cases m <;> cases r <;> simp only [lent, List.nodup_cons] at n <;> first | exact n | exact n.2
    cases m <;> cases r <;> simp only [putB] <;> exact putB_hit n' (by simpa using h1) (by simpa using h2) (by simpa using h3) (by simpa using hl)
theorem finOk_get : ∀ {ms : List Md} {fs : List Sl} {j : Nat}, finOk ms fs = true → ms[j]? = some .m → ∃ s, fs[j]? = some s ∧ ((∃ ds, s = .o ds) ∨ ∃ d, s = .v d)
  | [], _, j, _, h => by simp at h
  | m :: ms, [], j, h, _ => by cases m <;> simp [finOk] at h
  | m :: ms, s :: fs, 0, h, h' => by
    simp at h'; subst h'
    cases s with
    | o ds => exact ⟨_, rfl, .inl ⟨ds, rfl⟩⟩
    | v d => exact ⟨_, rfl, .inr ⟨d, rfl⟩⟩
    | no => simp [finOk] at h
    | f ds => simp [finOk] at h
    | x _ => simp [finOk] at h
  | m :: ms, s :: fs, j + 1, h, h' => by
    have : finOk ms fs = true := by cases m <;> cases s <;> simp [finOk] at h <;> exact h
    simpa using finOk_get (j := j) this (by simpa using h')
theorem RepRs.at {S H : Hp} {e : En} : ∀ {rs : List RV} {xs : List V} {j : Nat} {x : V}, RepRs K S H σ e rs xs → xs[j]? = some x → ∃ r, rs[j]? = some r ∧ RepR K S H σ e r x
  | _, _, _, _, .nil, h => by simp at h
  | _, _, 0, _, .cons a _ _, h => by simp at h; subst h; exact ⟨_, rfl, a⟩
  | _, _, j + 1, _, .cons _ _ t, h => by
    obtain ⟨r, h1, h2⟩ := t.at (j := j) (by simpa using h)
    exact ⟨r, by simpa using h1, h2⟩
theorem RepRs.noo {S H : Hp} {e : En} : ∀ {rs : List RV} {xs : List V} {i j : Nat} {ds es : List D} {x : V}, RepRs K S H σ e rs xs → rs[i]? = some (.o ds) → rs[j]? = some (.o es) → xs[i]? = some x → xs[j]? = some x → i = j
  | _, _, _, _, _, _, _, .nil, h, _, _, _ => by simp at h
  | _, _, 0, 0, _, _, _, .cons _ _ _, _, _, _, _ => rfl
  | _, _, 0, j + 1, _, _, _, .cons _ n t, h1, h2, h3, h4 => by
    simp at h1 h3; subst h1 h3
    exact absurd (by simpa using h4) (n _ rfl j _ (by simpa using h2))
  | _, _, i + 1, 0, _, _, _, .cons _ n t, h1, h2, h3, h4 => by
    simp at h2 h4; subst h2 h4
    exact absurd (by simpa using h3) (n _ rfl i _ (by simpa using h1))
  | _, _, i + 1, j + 1, _, _, _, .cons _ n t, h1, h2, h3, h4 => by
    rw [t.noo (i := i) (j := j) (by simpa using h1) (by simpa using h2) (by simpa using h3) (by simpa using h4)]
theorem some_get {xs : List V} {j : Nat} {x : V} : (xs.map some)[j]? = some (some x) ↔ xs[j]? = some x := by
  rw [List.getElem?_map]
  cases xs[j]? <;> simp
theorem slOf_get {as : List AV} {j : Nat} {s : Sl} (h : (as.map slOf)[j]? = some s) : ∃ a, as[j]? = some a ∧ slOf a = s := by
  rw [List.getElem?_map] at h
  cases e : as[j]? with
  | none => rw [e] at h; cases h
  | some a => rw [e] at h; cases h; exact ⟨a, rfl, rfl⟩
section
variable {S H : Hp} {e : En} {ms : List Md} {rs : List RV} {xs : List V} {as : List AV}
theorem own_arg (p : RepRs K S H σ e rs xs) (ha : avs e ms rs = some as) {a : Addr} (w : OwnAt (xs.map some) (as.map slOf) a) : ∃ (j : Nat) (r : RV) (ds : List D), ms[j]? = some .m ∧ rs[j]? = some r ∧ xs[j]? = some (V.ref a) ∧ as[j]? = some (.m ds) ∧ (r = .o ds ∨ ∃ k : Nat, r = .b k ∧ e[k]? = some (Sl.o ds) ∧ σ[k]? = some (some (V.ref a))) := by
  obtain ⟨j, ds, h1, h2⟩ := w
  obtain ⟨av, h3, h4⟩ := slOf_get h1
  obtain ⟨m, r, h5, h6, h7⟩ := avs_get ha h3
  have h2 := some_get.mp h2
  cases av with
  | v d => cases h4
  | f d => cases h4
  | q => cases h4
  | m ds' =>
    cases h4
    cases m with
    | v => exact h7.elim
    | f => exact h7.elim
    | q => exact h7.elim
    | m =>
      refine ⟨j, r, ds, h5, h6, h2, h3, ?_⟩
      rcases h7 with h7 | ⟨k, h7, h8⟩
      · exact .inl h7
      · obtain ⟨x, h9, h10⟩ := p.get h6
        rw [h2] at h9; cases h9
        subst h7
        exact .inr ⟨k, rfl, h8, h10⟩
theorem args_rel (q : Rel K S H σ e) (p : RepRs K S H σ e rs xs) (ha : avs e ms rs = some as) (hn : (lent ms rs).Nodup) : Rel K S H (xs.map some) (as.map slOf) := by
  refine ⟨q.sub, by rw [List.length_map, List.length_map, (avs_len ha).1, p.length], fun j d h => ?_, fun j ds h => ?_, fun i j a ds es h1 h2 h3 h4 => ?_, fun j ds h => ?_, fun j x h => by
    obtain ⟨av, _, h4⟩ := slOf_get h
    cases av <;> cases h4⟩
  · obtain ⟨av, h3, h4⟩ := slOf_get h
    obtain ⟨m, r, h5, h6, h7⟩ := avs_get ha h3
    cases av with
    | v d' =>
      cases h4
      cases m with
      | v =>
        obtain ⟨x, h8, h9⟩ := p.get h6
        have h7 : r = .v d := h7
        subst h7
        exact ⟨x, some_get.mpr h8, h9⟩
      | m => exact h7.elim
      | f => exact h7.elim
      | q => exact h7.elim
    | m d' => cases h4
    | f d' => cases h4
    | q => cases h4
  · obtain ⟨av, h3, h4⟩ := slOf_get h
    obtain ⟨m, r, h5, h6, h7⟩ := avs_get ha h3
    cases av with
    | v d' => cases h4
    | f d' => cases h4
    | q => cases h4
    | m ds' =>
      cases h4
      obtain ⟨x, h8, h9⟩ := p.get h6
      cases m with
      | v => exact h7.elim
      | f => exact h7.elim
      | q => exact h7.elim
      | m =>
        rcases h7 with rfl | ⟨k, rfl, h10⟩
        · obtain ⟨a, ys, rfl, z1, z2, z3, _⟩ := h9
          exact ⟨a, ys, some_get.mpr h8, z1, z2, z3⟩
        · obtain ⟨a, ys, z0, z1, z2, z3⟩ := q.own k ds h10
          have h9 : σ[k]? = some (some x) := h9
          rw [h9] at z0; cases z0
          exact ⟨a, ys, some_get.mpr h8, z1, z2, z3⟩
  · obtain ⟨j1, r1, d1, a1, a2, a3, a4, a5⟩ := own_arg p ha ⟨i, ds, h1, h3⟩
    obtain ⟨j2, r2, d2, b1, b2, b3, b4, b5⟩ := own_arg p ha ⟨j, es, h2, h4⟩
    -- the places themselves
    obtain ⟨av, c1, c2⟩ := slOf_get h1
    obtain ⟨av', c3, c4⟩ := slOf_get h2
    obtain ⟨m1, s1, c5, c6, c7⟩ := avs_get ha c1
    obtain ⟨m2, s2, c8, c9, c10⟩ := avs_get ha c3
    have x1 := some_get.mp h3
    have x2 := some_get.mp h4
    cases av with
    | v d => cases c2
    | f d => cases c2
    | q => cases c2
    | m dd =>
      cases c2
      cases av' with
      | v d => cases c4
      | f d => cases c4
      | q => cases c4
      | m dd' =>
        cases c4
        cases m1 with
        | v => exact c7.elim
        | f => exact c7.elim
        | q => exact c7.elim
        | m =>
          cases m2 with
          | v => exact c10.elim
          | f => exact c10.elim
          | q => exact c10.elim
          | m =>
            obtain ⟨y1, y2, y3⟩ := p.get c6
            rw [x1] at y2; cases y2
            obtain ⟨z1, z2, z3⟩ := p.get c9
            rw [x2] at z2; cases z2
            rcases c7 with rfl | ⟨k, rfl, c7⟩
            · rcases c10 with rfl | ⟨k', rfl, c10⟩
              · exact p.noo c6 c9 x1 x2
              · obtain ⟨b, ys, e1, _, _, _, e5⟩ := y3
                cases e1
                exact absurd ⟨k', _, c10, z3⟩ e5
            · rcases c10 with rfl | ⟨k', rfl, c10⟩
              · obtain ⟨b, ys, e1, _, _, _, e5⟩ := z3
                cases e1
                exact absurd ⟨k, _, c7, y3⟩ e5
              · have : k = k' := q.dis k k' a _ _ c7 c10 y3 z3
                subst this
                exact lent_one hn c5 c6 c8 c9
  · obtain ⟨av, h3, h4⟩ := slOf_get h
    obtain ⟨m, r, h5, h6, h7⟩ := avs_get ha h3
    cases av with
    | v d' => cases h4
    | m d' => cases h4
    | q => cases h4
    | f ds' =>
      cases h4
      obtain ⟨x, h8, h9⟩ := p.get h6
      cases m with
      | v => exact h7.elim
      | m => exact h7.elim
      | q => exact h7.elim
      | f =>
        obtain ⟨k, rfl, h10⟩ := h7
        obtain ⟨a, ys, z0, z1, z2⟩ := q.fgn k ds h10
        have h9 : σ[k]? = some (some x) := h9
        rw [h9] at z0; cases z0
        exact ⟨a, ys, some_get.mpr h8, z1, z2⟩
/-- an argument list that is lent is a slot's own, or new -/
theorem own_arg_base (g : Grow K S0 H0 σ0 e0 S H σ e) (p : RepRs K S H σ e rs xs) (f : FrsA H0 σ0 e0 rs xs) (ha : avs e ms rs = some as) {a : Addr} (w : OwnAt (xs.map some) (as.map slOf) a) : OwnAt σ0 e0 a ∨ H0 a = none := by
  obtain ⟨j, r, ds, _, h2, h3, _, h5⟩ := own_arg p ha w
  rcases h5 with rfl | ⟨k, rfl, h6, h7⟩
  · exact (f.get h2 h3 a rfl).symm
  · exact g.own a ⟨k, ds, h6, h7⟩
/-- a slot's own list behind the call was one ahead of it -/
theorem own_new {fs : List Sl} (p : RepRs K S H σ e rs xs) (ha : avs e ms rs = some as) {a : Addr} (w : OwnAt σ (putB ms rs fs e) a) : OwnAt σ e a := by
  obtain ⟨k, ds, h1, h2⟩ := w
  by_cases h : ∃ j : Nat, ms[j]? = some Md.m ∧ rs[j]? = some (RV.b k)
  · obtain ⟨j, j1, j2⟩ := h
    have hj : j < as.length := by
      rw [(avs_len ha).1]
      exact (List.getElem?_eq_some_iff.mp j2).1
    obtain ⟨m, r, b1, b2, b3⟩ := avs_get ha (List.getElem?_eq_getElem hj)
    rw [j1] at b1; cases b1
    rw [j2] at b2; cases b2
    generalize as[j] = av at b3
    cases av with
    | v d => exact b3.elim
    | f d => exact b3.elim
    | q => exact b3.elim
    | m ds' =>
      rcases b3 with z | ⟨k', z, b4⟩
      · cases z
      · cases z; exact ⟨k, ds', b4, h2⟩
  · rw [putB_miss fun j h3 h4 => h ⟨j, h3, h4⟩] at h1
    exact ⟨k, ds, h1, h2⟩
/-- behind a call: the state of the caller -/
theorem call_back {S' H' : Hp} {fs : List Sl} (g : Grow K S0 H0 σ0 e0 S H σ e) (p : RepRs K S H σ e rs xs) (f : FrsA H0 σ0 e0 rs xs) (ha : avs e ms rs = some as) (hn : (lent ms rs).Nodup) (hf : finOk ms fs = true)
    (c : Grow K S H (xs.map some) (as.map slOf) S' H' (xs.map some) fs) : Grow K S0 H0 σ0 e0 S' H' σ (putB ms rs fs e) := by
  have q := g.rel
  -- a place of the slots behind the call: a lent one or one that stands
  have hit : ∀ k : Nat, (∃ j : Nat, ms[j]? = some Md.m ∧ rs[j]? = some (RV.b k)) ∨ (∀ j : Nat, ms[j]? = some Md.m → rs[j]? ≠ some (RV.b k)) := fun k => by
    by_cases h : ∃ j : Nat, ms[j]? = some Md.m ∧ rs[j]? = some (RV.b k)
    · exact .inl h
    · exact .inr fun j h1 h2 => h ⟨j, h1, h2⟩
  -- what a lent slot holds behind the call
  have lentAt : ∀ {k j : Nat} {s : Sl}, ms[j]? = some .m → rs[j]? = some (.b k) → (putB ms rs fs e)[k]? = some s → fs[j]? = some s ∧ ∃ x ds, xs[j]? = some x ∧ σ[k]? = some (some x) ∧ e[k]? = some (Sl.o ds) := by
    intro k j s h1 h2 h3
    obtain ⟨x, h4, h5⟩ := p.get h2
    have hj : j < as.length := by
      rw [(avs_len ha).1]
      exact (List.getElem?_eq_some_iff.mp h2).1
    obtain ⟨m, r, b1, b2, b3⟩ := avs_get ha (List.getElem?_eq_getElem hj)
    rw [h1] at b1; cases b1
    rw [h2] at b2; cases b2
    have own : ∃ ds, e[k]? = some (Sl.o ds) := by
      generalize as[j] = av at b3
      cases av with
      | v d => exact b3.elim
      | f d => exact b3.elim
      | q => exact b3.elim
      | m ds =>
        rcases b3 with z | ⟨k', z, b4⟩
        · cases z
        · cases z; exact ⟨ds, b4⟩
    obtain ⟨ds, own⟩ := own
    obtain ⟨s', c1, _⟩ := finOk_get hf h1
    have c2 := putB_hit (e := e) hn h1 h2 c1 (List.getElem?_eq_some_iff.mp own).1
    rw [h3] at c2; cases c2
    exact ⟨c1, x, ds, h4, h5, own⟩
  have ownNew : ∀ a, OwnAt σ (putB ms rs fs e) a → OwnAt σ e a := fun a ⟨k, ds, h1, h2⟩ => by
    rcases hit k with ⟨j, j1, j2⟩ | no
    · obtain ⟨_, x, ds', _, _, z⟩ := lentAt j1 j2 h1
      exact ⟨k, ds', z, h2⟩
    · rw [putB_miss no] at h1
      exact ⟨k, ds, h1, h2⟩
  -- an own list that isn't lent isn't the callee's
  have notArg : ∀ {k : Nat} {a : Addr} {ds : List D}, (∀ j : Nat, ms[j]? = some Md.m → rs[j]? ≠ some (RV.b k)) → e[k]? = some (Sl.o ds) → σ[k]? = some (some (V.ref a)) → ¬ OwnAt (xs.map some) (as.map slOf) a := by
    intro k a ds no h1 h2 w
    obtain ⟨j, r, ds', b1, b2, b3, _, b5⟩ := own_arg p ha w
    rcases b5 with rfl | ⟨k', rfl, b6, b7⟩
    · obtain ⟨x, b8, b9⟩ := p.get b2
      rw [b3] at b8; cases b8
      obtain ⟨b, ys, z, _, _, _, z5⟩ := b9
      cases z
      exact z5 ⟨k, ds, h1, h2⟩
    · have : k = k' := q.dis k k' a _ _ h1 b6 h2 b7
      subst this
      exact no j b1 b2
  have rl : Rel K S' H' σ (putB ms rs fs e) := by
    refine ⟨c.rel.sub, by rw [putB_len]; exact q.len, fun k d h => ?_, fun k ds h => ?_, fun k1 k2 a ds es h1 h2 h3 h4 => ?_, fun k ds h => ?_, fun k x h => ?_⟩
    · rcases hit k with ⟨j, j1, j2⟩ | no
      · obtain ⟨z1, x, ds', z2, z3, z4⟩ := lentAt j1 j2 h
        obtain ⟨y, y1, y2⟩ := c.rel.val j d z1
        have := some_get.mp y1
        rw [z2] at this; cases this
        exact ⟨x, z3, y2⟩
      · rw [putB_miss no] at h
        obtain ⟨x, h1, h2⟩ := q.val k d h
        exact ⟨x, h1, h2.mono c.sub⟩
    · rcases hit k with ⟨j, j1, j2⟩ | no
      · obtain ⟨z1, x, ds', z2, z3, z4⟩ := lentAt j1 j2 h
        obtain ⟨a, ys, y1, y2, y3, y4⟩ := c.rel.own j ds z1
        have := some_get.mp y1
        rw [z2] at this; cases this
        exact ⟨a, ys, z3, y2, y3, y4⟩
      · rw [putB_miss no] at h
        obtain ⟨a, ys, h1, h2, h3, h4⟩ := q.own k ds h
        have na := notArg no h h1
        exact ⟨a, ys, h1, c.keep _ _ h2 na, c.free _ _ h2 na h3, h4.mono c.sub⟩
    · have o1 : ∃ ds', e[k1]? = some (Sl.o ds') := by
        rcases hit k1 with ⟨j, j1, j2⟩ | no
        · obtain ⟨_, _, ds', _, _, z⟩ := lentAt j1 j2 h1
          exact ⟨ds', z⟩
        · rw [putB_miss no] at h1; exact ⟨_, h1⟩
      have o2 : ∃ ds', e[k2]? = some (Sl.o ds') := by
        rcases hit k2 with ⟨j, j1, j2⟩ | no
        · obtain ⟨_, _, ds', _, _, z⟩ := lentAt j1 j2 h2
          exact ⟨ds', z⟩
        · rw [putB_miss no] at h2; exact ⟨_, h2⟩
      obtain ⟨d1, o1⟩ := o1
      obtain ⟨d2, o2⟩ := o2
      exact q.dis k1 k2 a _ _ o1 o2 h3 h4
    · rcases hit k with ⟨j, j1, j2⟩ | no
      · obtain ⟨z1, _⟩ := lentAt j1 j2 h
        obtain ⟨s, c1, c2⟩ := finOk_get hf j1
        rw [z1] at c1; cases c1
        rcases c2 with ⟨_, c2⟩ | ⟨_, c2⟩ <;> cases c2
      · rw [putB_miss no] at h
        obtain ⟨a, ys, h1, h2, h3⟩ := q.fgn k ds h
        exact ⟨a, ys, h1, c.sub.sqL h2, h3.mono c.sub⟩
    · rcases hit k with ⟨j, j1, j2⟩ | no
      · obtain ⟨z1, _⟩ := lentAt j1 j2 h
        obtain ⟨s, c1, c2⟩ := finOk_get hf j1
        rw [z1] at c1; cases c1
        rcases c2 with ⟨_, c2⟩ | ⟨_, c2⟩ <;> cases c2
      · rw [putB_miss no] at h
        obtain ⟨a, h1, h2⟩ := q.exc k x h
        exact ⟨a, h1, h2.mono c.sub fun b o e1 e2 => c.keep b o e1 fun w => by
          obtain ⟨j, r, ds, _, b2, b3, _, b5⟩ := own_arg p ha w
          rcases b5 with rfl | ⟨k', rfl, b6, b7⟩
          · obtain ⟨y, b8, b9⟩ := p.get b2
            rw [b3] at b8; cases b8
            obtain ⟨b', ys, z, z2, _⟩ := b9
            cases z
            rw [e1] at z2; cases z2
            exact e2 _ rfl
          · obtain ⟨b', ys, z, z2, _⟩ := q.own k' _ b6
            rw [b7] at z; cases z
            rw [e1] at z2; cases z2
            exact e2 _ rfl⟩
  have notCallee : ∀ {a : Addr} {o : HO}, H0 a = some o → ¬ OwnAt σ0 e0 a → ¬ OwnAt (xs.map some) (as.map slOf) a := fun {a o} h n w => by
    rcases own_arg_base g p f ha w with z | z
    · exact n z
    · rw [h] at z; cases z
  exact ⟨rl, g.sub.tr c.sub, fun a o h n => c.keep a o (g.keep a o h n) (notCallee h n), fun a o h n s => c.free a o (g.keep a o h n) (notCallee h n) (g.free a o h n s), fun a w => g.own a (ownNew a w)⟩
/-- what comes back -/
theorem call_res {S' H' : Hp} {fs : List Sl} {cv : CV} {r : RV} {x : V} (g : Grow K S0 H0 σ0 e0 S H σ e) (p : RepRs K S H σ e rs xs) (f : FrsA H0 σ0 e0 rs xs) (ha : avs e ms rs = some as) (hn : (lent ms rs).Nodup) (hf : finOk ms fs = true)
    (c : Grow K S H (xs.map some) (as.map slOf) S' H' (xs.map some) fs) (hr : ResR K H S' H' xs as cv x) (hb : backR rs fs cv = some r) : RepR K S' H' σ (putB ms rs fs e) r x ∧ Frs H0 σ0 e0 r x := by
  have q := g.rel
  cases cv with
  | v d => simp [backR] at hb; subst hb; exact ⟨hr, trivial⟩
  | o ds =>
    simp [backR] at hb; subst hb
    obtain ⟨a, ys, rfl, h1, h2, h3, h4⟩ := hr
    refine ⟨⟨a, ys, rfl, h1, h2, h3, fun w => ?_⟩, fun b hb => by cases hb; exact g.new h4⟩
    exact q.not_own h4 (own_new p ha w)
  | p j =>
    obtain ⟨h1, ds0, h2⟩ := hr
    simp only [backR] at hb
    obtain ⟨m, r0, b1, b2, b3⟩ := avs_get ha h2
    cases m with
    | v => exact b3.elim
    | f => exact b3.elim
    | q => exact b3.elim
    | m =>
      rcases b3 with rfl | ⟨k, rfl, b4⟩
      · rw [b2] at hb
        simp only at hb
        obtain ⟨y, y1, y2⟩ := p.get b2
        rw [h1] at y1; cases y1
        split at hb
        · rename_i ds hfs
          cases hb
          obtain ⟨a, ys, z1, z2, z3, z4⟩ := c.rel.own j ds hfs
          have := some_get.mp z1
          rw [h1] at this; cases this
          obtain ⟨b, zs, e1, _, _, _, e5⟩ := y2
          cases e1
          refine ⟨⟨a, ys, rfl, z2, z3, z4, fun w => ?_⟩, fun b hb => f.get b2 h1 b hb⟩
          exact e5 (own_new p ha w)
        · rename_i d hfs
          cases hb
          obtain ⟨y, z1, z2⟩ := c.rel.val j d hfs
          have := some_get.mp z1
          rw [h1] at this; cases this
          exact ⟨z2, trivial⟩
        · cases hb
      · rw [b2] at hb
        cases hb
        obtain ⟨y, y1, y2⟩ := p.get b2
        rw [h1] at y1; cases y1
        exact ⟨y2, trivial⟩
end
end
end Vc
end
section
set_option Elab.async false
set_option linter.all false
namespace Vc
open PySem PySem.Spec PyProof.Rows L2
variable [XrC]
section
variable {X : Cx} {G : Gx} {a b : Expr} {es : List Expr} {pos : Pos} {f g : En → R}
theorem callV_read {Φ : Ph} {fn : Nat} {ms : List Md} {S S1 H H1 : Hp} {σ : L2.St} {e e1 : En} {Q : VK} {rs : List RV} {xs : List V} (g : Grow G.K S H σ e S1 H1 σ e1) (p : RepRs G.K S1 H1 σ e1 rs xs) (fr : FrsA H σ e rs xs)
    (k : PR G S H σ e Q (callV Φ fn ms rs e1)) : rCall G.K G.xr Φ fn xs H1 Q (fun cls d H' => G.W cls d (base G σ) H') ∧ xs.length = ms.length := by
  unfold callV at k
  split at k
  · exact k.elim
  · rename_i rs1 e2 hp
    obtain ⟨S2, g2, s2, p2, f2, _, _⟩ := prep_ok g p fr hp
    split at k
    · exact k.elim
    · rename_i as ha
      split at k
      · rename_i hn
        have hn := of_decide_eq_true hn
        refine ⟨⟨S2, as, args_rel g2.rel p2 ha hn, ?_⟩, by rw [← p2.length, (avs_len ha).2]⟩
        split at k
        · exact k.elim
        · rename_i cv fs hΦ
          try rw [hΦ]
          split at k
          · rename_i hf
            intro x S' H' c hr
            cases hb : backR rs1 fs cv with
            | none => rw [hb] at k; exact k.elim
            | some r =>
              rw [hb] at k
              obtain ⟨q1, q2⟩ := call_res g2 p2 f2 ha hn hf c hr hb
              exact k x S' H' (call_back g2 p2 f2 ha hn hf c) q1 q2
          · exact k.elim
        · rename_i xn fs hΦ
          try rw [hΦ]
          split at k
          · rename_i hf
            intro cls d S' H' c hx
            exact k cls d S' H' (call_back g2 p2 f2 ha hn hf c) hx
          · exact k.elim
      · exact k.elim
theorem atoms_any {K : Fg} {S T : Hp} : ∀ {xs : List V} {ds : List D}, RpA K S xs ds → ds.all atomD = true → RpA K T xs ds
  | _, _, .nil, _ => .nil
  | _, _, .cons h t, q => by
    obtain ⟨q1, q2⟩ := Bool.and_eq_true_iff.mp (show (_ && _) = true from q)
    refine .cons ?_ (atoms_any t q2)
    cases h with
    | non => exact .non
    | bl b => exact .bl b
    | int i => exact .int i
    | str z => exact .str z
    | lst _ _ => cases q1
    | tup _ _ => cases q1
    | dct _ => cases q1
/-- the heap of data with the lists that are shown -/
noncomputable def shown (S H : Hp) (xs : List V) : Hp := fun a => match S a with
  | some o => some o
  | none => @ite _ (V.ref a ∈ xs ∧ ∃ ys, H a = some (.lst ys)) (Classical.propDecidable _) (H a) none
theorem shown_of {S H : Hp} {xs : List V} {a : Addr} {o : HO} (h : shown S H xs a = some o) : S a = some o ∨ (S a = none ∧ V.ref a ∈ xs ∧ H a = some o ∧ ∃ ys, o = .lst ys) := by
  unfold shown at h
  split at h
  · rename_i o' hS; cases h; exact .inl hS
  · rename_i hS
    split at h
    · rename_i hc
      obtain ⟨h1, ys, h2⟩ := hc
      exact .inr ⟨hS, h1, h, ys, by rw [h2] at h; exact (Option.some.inj h).symm⟩
    · cases h
theorem shown_own {S H : Hp} {xs : List V} {a : Addr} {ys : List V} (s : Sub S H) (hx : V.ref a ∈ xs) (h : H a = some (.lst ys)) : shown S H xs a = some (.lst ys) := by
  unfold shown
  split
  · rename_i o hS
    rw [← h, s a o hS]
  · rw [if_pos ⟨hx, ys, h⟩, h]
theorem shown_sub {S H : Hp} {xs : List V} : Sub S (shown S H xs) := fun a o h => by unfold shown; rw [h]
theorem shown_le {S H : Hp} {xs : List V} (s : Sub S H) : Sub (shown S H xs) H := fun a o h => by
  rcases shown_of h with q | ⟨_, _, q, _⟩
  · exact s a o q
  · exact q
theorem shown_rp {K : Fg} {S H : Hp} {zs : List V} (s : Sub S H) : ∀ {xs : List V} {ds : List D}, Paired (Rz K S H) xs ds → (∀ x ∈ xs, x ∈ zs) → ∀ (i : Nat) (d : D), ds[i]? = some d → ∃ x, xs[i]? = some x ∧ Rp K (shown S H zs) x d
  | _, _, .nil, _, i, d, h => by simp at h
  | x :: _, _, .cons q t, hz, 0, d, h => by
    simp at h; subst h
    refine ⟨x, rfl, ?_⟩
    rcases q with q | ⟨a, ys, es, rfl, rfl, h1, h2⟩
    · exact q.mono shown_sub
    · exact .lst (shown_own s (hz _ List.mem_cons_self) h1) (h2.mono shown_sub)
  | _ :: _, _, .cons q t, hz, i + 1, d, h => by
    simpa using shown_rp s t (fun x hx => hz x (List.mem_cons_of_mem _ hx)) i d (by simpa using h)
/-- nothing of what lay there has changed: the plain data may be told more -/
theorem still {K : Fg} {S S' H H' : Hp} {σ : L2.St} {e : En} (q : Rel K S H σ e) (s1 : Sub S S') (s2 : Sub S' H') (keep : ∀ a o, H a = some o → H' a = some o) (new : ∀ a o, S' a = some o → S a = none → H a = none) : Grow K S H σ e S' H' σ e := by
  have free : ∀ a o, H a = some o → S a = none → S' a = none := fun a o h hS => by
    cases h' : S' a with
    | none => rfl
    | some o' => rw [new a o' h' hS] at h; cases h
  refine ⟨⟨s2, q.len, fun i d h => ?_, fun i ds h => ?_, q.dis, fun i ds h => ?_, fun i x h => by
    obtain ⟨a, e1, e2⟩ := q.exc i x h
    exact ⟨a, e1, e2.mono s1 fun b o e _ => keep b o e⟩⟩, s1, fun a o h _ => keep a o h, fun a o h _ => free a o h, fun a w => .inl w⟩
  · obtain ⟨x, h1, h2⟩ := q.val i d h
    exact ⟨x, h1, h2.mono s1⟩
  · obtain ⟨a, xs, h1, h2, h3, h4⟩ := q.own i ds h
    exact ⟨a, xs, h1, keep _ _ h2, free _ _ h2 h3, h4.mono s1⟩
  · obtain ⟨a, xs, h1, h2, h3⟩ := q.fgn i ds h
    exact ⟨a, xs, h1, s1.sqL h2, h3.mono s1⟩
theorem callB_read {Φ : Ph} {fn : Nat} {ms : List Md} {S S1 H H1 : Hp} {σ : L2.St} {e e1 : En} {Q : VK} {rs : List RV} {xs : List V} (g : Grow G.K S H σ e S1 H1 σ e1) (p : RepRs G.K S1 H1 σ e1 rs xs) (fr : FrsA H σ e rs xs)
    (k : PR G S H σ e Q (callB Φ fn ms rs e1)) : rCall G.K G.xr Φ fn xs H1 Q (fun cls d H' => G.W cls d (base G σ) H') ∧ xs.length = ms.length := by
  unfold callB at k
  split at k
  · exact k.elim
  · rename_i ds hds
    have pz := ress_ok g.rel p hds
    have hlen : xs.length = ds.length := pz.length
    split at k
    · rename_i hms
      have hms := of_decide_eq_true hms
      refine ⟨⟨shown S1 H1 xs, ds.map .v, ?_, ?_⟩, by rw [hms, List.length_replicate]; exact hlen⟩
      · have at_ : ∀ (i : Nat) (s : Sl), ((ds.map AV.v).map slOf)[i]? = some s → ∃ d, ds[i]? = some d ∧ s = .v d := fun i s h => by
          rw [List.map_map, List.getElem?_map] at h
          obtain ⟨d, h1, h2⟩ := Option.map_eq_some_iff.mp h
          exact ⟨d, h1, h2.symm⟩
        refine ⟨shown_le g.rel.sub, by simp [hlen], fun i d h => ?_, fun i es h => ?_, fun i j a es es' h => ?_, fun i es h => ?_, fun i x h => by obtain ⟨_, _, h2⟩ := at_ i _ h; cases h2⟩
        · obtain ⟨d', h1, h2⟩ := at_ i _ h
          cases h2
          obtain ⟨x, h3, h4⟩ := shown_rp g.rel.sub pz (fun _ z => z) i d h1
          exact ⟨x, some_get.mpr h3, h4⟩
        · obtain ⟨_, _, h2⟩ := at_ i _ h; cases h2
        · obtain ⟨_, _, h2⟩ := at_ i _ h; cases h2
        · obtain ⟨_, _, h2⟩ := at_ i _ h; cases h2
      · split at k
        · rename_i cv fs hΦ
          try rw [hΦ]
          split at k
          · rename_i hf
            intro x S' H' c hr
            have noown : ∀ a, ¬ OwnAt (xs.map some) ((ds.map AV.v).map slOf) a := fun a ⟨i, es, h, _⟩ => by
              rw [List.map_map, List.getElem?_map] at h
              obtain ⟨d, _, h2⟩ := Option.map_eq_some_iff.mp h
              cases h2
            have keep : ∀ a o, H1 a = some o → H' a = some o := fun a o h => c.keep a o h (noown a)
            have plain := still g.rel Sub.rfl' (fun a o h => keep a o (g.rel.sub a o h)) keep fun a o h1 h2 => by rw [h1] at h2; cases h2
            cases cv with
            | p j => cases hf
            | o es =>
              obtain ⟨a, ys, rfl, h1, h2, h3, h4⟩ := hr
              have hS : S1 a = none := g.rel.sub.non h4
              exact k _ S1 H' (g.trans plain) ⟨a, ys, rfl, h1, hS, atoms_any h3 hf, g.rel.not_own h4⟩ fun b hb => by cases hb; exact g.new h4
            | v d =>
              have hr : Rp G.K S' x d := hr
              cases hr with
              | non => exact k _ S1 H' (g.trans plain) .non trivial
              | bl b => exact k _ S1 H' (g.trans plain) (.bl b) trivial
              | int i => exact k _ S1 H' (g.trans plain) (.int i) trivial
              | str z => exact k _ S1 H' (g.trans plain) (.str z) trivial
              | lst _ _ => cases hf
              | dct _ => cases hf
              | @tup a ys es hq hes =>
                rcases hq with hq | hq
                · -- an object that is told
                  obtain ⟨o', ho', hno⟩ : ∃ o', S' a = some o' ∧ ∀ zs, o' ≠ .lst zs := by
                    rcases hq with hq | ⟨o, hq⟩
                    · exact ⟨_, hq, fun zs z => by cases z⟩
                    · exact ⟨_, hq, fun zs z => by cases z⟩
                  have sq : ∀ T : Hp, T a = some o' → SqT G.K T a ys := fun T hT => by
                    rcases hq with hq | ⟨o, hq⟩
                    · rw [ho'] at hq; exact .inl (.inl (by rw [hT, hq]))
                    · rw [ho'] at hq; exact .inl (.inr ⟨o, by rw [hT, hq]⟩)
                  cases hH : H1 a with
                  | none =>
                    refine k _ (upd S1 a o') H' (g.trans (still g.rel (Sub.laid (g.rel.sub.non hH)) (fun b o h => ?_) keep fun b o h hb => ?_)) (.tup (sq _ upd_same) (atoms_any hes hf)) trivial
                    · by_cases hba : b = a
                      · subst hba; rw [upd_same] at h; cases h; exact c.rel.sub _ _ ho'
                      · rw [upd_ne hba] at h; exact keep b o (g.rel.sub b o h)
                    · by_cases hba : b = a
                      · subst hba; exact hH
                      · rw [upd_ne hba, hb] at h; cases h
                  | some o1 =>
                    have e1 : o1 = o' := by
                      have := keep a o1 hH
                      rw [c.rel.sub a o' ho'] at this
                      exact (Option.some.inj this).symm
                    subst e1
                    have hS : S1 a = some o1 := by
                      cases hT : shown S1 H1 xs a with
                      | none => rw [c.free a o1 hH (noown a) hT] at ho'; cases ho'
                      | some o2 =>
                        rcases shown_of hT with q | ⟨_, _, q, zs, e⟩
                        · rw [q, ← hH, ← g.rel.sub a o2 q]
                        · rw [hH] at q; cases q; exact absurd e (hno zs)
                    exact k _ S1 H' (g.trans plain) (.tup (sq _ hS) (atoms_any hes hf)) trivial
                · exact k _ S1 H' (g.trans plain) (.tup (.inr hq) (atoms_any hes hf)) trivial
          · exact k.elim
        · exact k.elim
    · exact k.elim
/-- how a call is read -/
def Cs (G : Gx) (Φ : Ph) (fn n : Nat) (cs : List RV → En → R) : Prop := ∀ {S S1 H H1 : Hp} {σ : L2.St} {e e1 : En} {Q : VK} {rs : List RV} {xs : List V}, Grow G.K S H σ e S1 H1 σ e1 → RepRs G.K S1 H1 σ e1 rs xs → FrsA H σ e rs xs →
  PR G S H σ e Q (cs rs e1) → rCall G.K G.xr Φ fn xs H1 Q (fun cls d H' => G.W cls d (base G σ) H') ∧ xs.length = n
theorem kwSel_all {α : Type} {ps : List Str} {us : List α} (h : us.length = ps.length) : kwSel ps us [] = some us := by
  unfold kwSel
  rw [h, List.drop_length]
  simp
noncomputable def semCall (cs : List RV → En → R) (gl : En → RL) (e : En) : R := (gl e).bd fun rs e1 => cs rs e1
theorem s_call {c : Cc} {Φ : Ph} (F : Fit X c G Φ) {x : Str} {fn : Nat} {cs : List RV → En → R} (hcs : Cs G Φ fn (c.md fn).length cs) {p : Pos} {gl : En → RL} (hx : c.defs.lookup x = some fn) (hl : (c.ps fn).length = (c.md fn).length) (hg : Gl X x) (hdb : (x == ("__debug__" : Str)) = false) (hpa : plainX a = true) (hpe : es.all plainX = true)
    (ha : PA X (a :: es) (tL G gl)) : PE X (.Call (.Name x p) (a :: es) [] pos) (tE G (semCall cs gl)) := by
  obtain ⟨fa, h1, h2, run⟩ := F.call hx
  refine ⟨fun pins s σ H Q I ⟨τ, hτ, S, e, rel, lnk, k⟩ => ?_⟩
  subst hτ
  refine wpAny_Call_Name_kw (ld_glob I hg h1 ?_ hdb)
  refine PySem.W.callWith_K (h₀ := X.base) I.ok.mod.kin h2 (thn (ha.run pos pins s (base G τ) H (fun xs H1 => rCall G.K G.xr Φ fn xs H1 Q (fun cls d H' => G.W cls d (base G τ) H') ∧ xs.length = (c.md fn).length) I ⟨τ, rfl, S, e, rel, lnk, PL.bd k fun rs e1 xs S1 H1 _ g1 p1 f1 k1 => hcs g1 p1 f1 k1⟩) fun us s1 ⟨vs, H1, I1, r, q⟩ => ⟨I1.kIn, ?_⟩) (star_cons hpa) (star_flags hpe)
  have hus : us.length = (c.ps fn).length := by rw [← r.length, q.2, hl]
  exact run pins s1 (base G τ) H1 us us [] vs Q I1 List.nodup_nil (fun y hy => absurd hy (by simp)) hus (kwSel_all hus) r q.1
theorem s_call0 {c : Cc} {Φ : Ph} (F : Fit X c G Φ) {x : Str} {fn : Nat} {cs : List RV → En → R} (hcs : Cs G Φ fn (c.md fn).length cs) {p : Pos} (hx : c.defs.lookup x = some fn) (hl : c.ps fn = []) (hg : Gl X x) (hdb : (x == ("__debug__" : Str)) = false) : PE X (.Call (.Name x p) [] [] pos) (tE G (semCall cs fun e => .ok [] e)) := by
  obtain ⟨fa, h1, h2, run⟩ := F.call hx
  refine ⟨fun pins s σ H Q I ⟨τ, hτ, S, e, rel, lnk, k⟩ => ?_⟩
  subst hτ
  refine wpAny_Call_Name_kw (ld_glob I hg h1 ?_ hdb)
  refine PySem.W.callWith_K0 I.kIn h2 ?_
  exact run pins s (base G τ) H [] [] [] [] Q I List.nodup_nil (fun y hy => absurd hy (by simp)) (by simp [hl]) (kwSel_all (by simp [hl])) .nil (hcs rel.grow .nil .nil k).1

theorem PKwk {kws : List Keyword} {t t' : TA} (h : PK X kws t) (k : ∀ σ H Q, t' σ H Q → t σ H Q) : PK X kws t' := ⟨fun pos pins s σ H Q I q => h.run pos pins s σ H Q I (k σ H Q q)⟩
theorem s_knil : PK X [] (tL G fun e => .ok [] e) := PKwk pk_nil fun σ H Q ⟨τ, hτ, S, e, rel, lnk, k⟩ => k [] S H rel.grow .nil .nil
theorem s_kcons {gl : En → RL} {nm : Option Str} {kp : Pos} {kws : List Keyword} (ha : PE X a (tE G f)) (hr : PK X kws (tL G gl)) : PK X (⟨nm, a, kp⟩ :: kws) (tL G (semCons f gl)) := by
  refine PKwk (pk_cons ha hr) fun σ H Q ⟨τ, hτ, S, e, rel, lnk, k⟩ => ⟨τ, hτ, S, e, rel, lnk, ?_⟩
  unfold semCons at k
  cases hf : f e with
  | st => rw [hf] at k; exact k
  | ex x e1 => rw [hf] at k; exact k
  | ok r e1 =>
    rw [hf] at k
    intro x S1 H1 g1 p1 f1
    refine ⟨τ, hτ, S1, e1, g1.rel, lnk.mono g1.sub, ?_⟩
    cases hg : gl e1 with
    | st => simp only [hg] at k; exact k
    | ex x e2 => simp only [hg] at k; exact PX.step g1 k
    | ok rs e2 =>
      simp only [hg] at k
      intro xs S2 H2 g2 p2 f2
      exact k (x :: xs) S2 H2 (g1.trans g2) (.cons (p1.grow g2) (fun ds hr => by subst hr; exact noO_of p2 f2 p1) p2) (.cons f1 (f2.back g1))
section
variable {K : Fg} {S H H0 : Hp} {σ σ0 : L2.St} {e e0 : En}
theorem RepRs.append {rs rs' : List RV} {xs xs' : List V} (p : RepRs K S H σ e rs xs) (h : RepRs K S H σ e rs' xs') : (∀ (i : Nat) (ds : List D) (x : V), rs[i]? = some (.o ds) → xs[i]? = some x → NoO x rs' xs') → RepRs K S H σ e (rs ++ rs') (xs ++ xs') := by
  induction p with
  | nil => exact fun _ => h
  | @cons r x rs xs a n t ih =>
    intro no
    rw [List.cons_append, List.cons_append]
    refine .cons a (fun ds hr j es hj hx => ?_) (ih fun i ds x h1 h2 => no (i + 1) ds x (by simpa using h1) (by simpa using h2))
    have hl := t.length
    by_cases hlt : j < rs.length
    · rw [List.getElem?_append_left hlt] at hj
      rw [List.getElem?_append_left (by omega)] at hx
      exact n ds hr j es hj hx
    · rw [List.getElem?_append_right (by omega)] at hj
      rw [List.getElem?_append_right (by omega)] at hx
      exact no 0 ds x (by simp [hr]) (by simp) (j - rs.length) es hj (by rw [hl]; exact hx)
theorem FrsA.append : ∀ {rs rs' : List RV} {xs xs' : List V}, FrsA H σ e rs xs → FrsA H σ e rs' xs' → FrsA H σ e (rs ++ rs') (xs ++ xs')
  | _, _, _, _, .nil, h => h
  | _, _, _, _, .cons a t, h => .cons a (t.append h)
theorem perm_reps {rs : List RV} {xs : List V} (p : RepRs K S H σ e rs xs) (f : FrsA H0 σ0 e0 rs xs) : ∀ {pm : List Nat} {rs' : List RV}, pm.Nodup → permd pm rs = some rs' → ∃ xs', RepRs K S H σ e rs' xs' ∧ FrsA H0 σ0 e0 rs' xs' ∧ pm.mapM (fun k => xs[k]?) = some xs' ∧
    ∀ (j : Nat) (r : RV) (x : V), rs'[j]? = some r → xs'[j]? = some x → ∃ k ∈ pm, rs[k]? = some r ∧ xs[k]? = some x
  | [], rs', _, h => by
    simp [permd] at h; subst h
    exact ⟨[], .nil, .nil, rfl, fun j r x h => by simp at h⟩
  | k :: pm, rs', hn, h => by
    simp only [permd, List.mapM_cons] at h
    cases hk : rs[k]? with
    | none => rw [hk] at h; simp at h
    | some r =>
      rw [hk] at h
      cases hm : pm.mapM (fun k => rs[k]?) with
      | none => rw [hm] at h; simp at h
      | some rs2 =>
        rw [hm] at h
        simp at h
        subst h
        obtain ⟨n1, n2⟩ := List.nodup_cons.mp hn
        obtain ⟨xs2, p2, f2, m2, k2⟩ := perm_reps p f n2 hm
        obtain ⟨x, hx, px⟩ := p.get hk
        refine ⟨x :: xs2, .cons px (fun ds hr j es hj hxj => ?_) p2, .cons (f.get hk hx) f2, by simp [List.mapM_cons, hx, m2], fun j r' x' h1 h2 => ?_⟩
        · subst hr
          obtain ⟨k', hk', h3, h4⟩ := k2 j _ _ hj hxj
          have := p.noo hk h3 hx h4
          subst this
          exact n1 hk'
        · cases j with
          | zero => simp at h1 h2; subst h1 h2; exact ⟨k, List.mem_cons_self, hk, hx⟩
          | succ j =>
            obtain ⟨k', a1, a2⟩ := k2 j r' x' (by simpa using h1) (by simpa using h2)
            exact ⟨k', List.mem_cons_of_mem _ a1, a2⟩
end
theorem vals_mapM {vs : List V} {us : List Value} (r : Vals vs us) : ∀ {pm : List Nat} {vs' : List V}, pm.mapM (fun k => vs[k]?) = some vs' → ∃ us', pm.mapM (fun k => us[k]?) = some us' ∧ Vals vs' us'
  | [], vs', h => by simp at h; subst h; exact ⟨[], rfl, .nil⟩
  | k :: pm, vs', h => by
    simp only [List.mapM_cons] at h
    cases hk : vs[k]? with
    | none => rw [hk] at h; simp at h
    | some v =>
      rw [hk] at h
      cases hm : pm.mapM (fun k => vs[k]?) with
      | none => rw [hm] at h; simp at h
      | some vs2 =>
        rw [hm] at h
        simp at h
        subst h
        obtain ⟨u, h1, h2⟩ := r.get hk
        obtain ⟨us2, h3, h4⟩ := vals_mapM r hm
        exact ⟨u :: us2, by simp [List.mapM_cons, h1, h3], .cons h2 h4⟩
/-- the parameters' values by the numbers of those that were reckoned -/
theorem kwSel_nat {ps ks : List Str} {n : Nat} {pm : List Nat} {us ws : List Value} (hn : us.length = n) (hk : ws.length = ks.length) (h : kwSel ps (List.range n) (ks.zip (List.range' n ks.length)) = some pm) :
    ∀ {us' : List Value}, pm.mapM (fun k => (us ++ ws)[k]?) = some us' → kwSel ps us (ks.zip ws) = some us' := by
  intro us' hm
  unfold kwSel at h ⊢
  rw [List.length_range] at h
  rw [hn]
  obtain ⟨l, h1, rfl⟩ := Option.map_eq_some_iff.mp h
  -- a keyword's value by its number
  have look : ∀ {ks : List Str} {ws : List Value} {m : Nat} {p : Str} {i : Nat}, ws.length = ks.length → (ks.zip ((List.range' m ks.length))).lookup p = some i → ∃ w, (ks.zip ws).lookup p = some w ∧ m ≤ i ∧ ws[i - m]? = some w := by
    intro ks
    induction ks with
    | nil => intro ws m p i _ h; simp at h
    | cons k ks ih =>
      intro ws m p i hl h
      cases ws with
      | nil => simp at hl
      | cons w ws =>
        rw [List.length_cons, List.range'_succ] at h
        simp only [List.zip_cons_cons, List.lookup] at h ⊢
        cases hpk : p == k with
        | true =>
          rw [hpk] at h
          simp only [Option.some.injEq] at h
          subst h
          exact ⟨w, rfl, Nat.le_refl _, by simp⟩
        | false =>
          rw [hpk] at h
          simp only at h ⊢
          obtain ⟨w', a1, a2, a3⟩ := ih (by simpa using hl) h
          refine ⟨w', a1, by omega, ?_⟩
          have : i - m = (i - (m + 1)) + 1 := by omega
          rw [this]; simpa using a3
  have rest : ∀ {qs : List Str} {l : List Nat} {out : List Value}, qs.mapM (fun p => (ks.zip (List.range' n ks.length)).lookup p) = some l → l.mapM (fun k => (us ++ ws)[k]?) = some out → qs.mapM (fun p => (ks.zip ws).lookup p) = some out := by
    intro qs
    induction qs with
    | nil => intro l out h1 h2; simp at h1; subst h1; simpa using h2
    | cons q qs ih =>
      intro l out h1 h2
      simp only [List.mapM_cons] at h1 ⊢
      cases hq : (ks.zip (List.range' n ks.length)).lookup q with
      | none => rw [hq] at h1; simp at h1
      | some i =>
        rw [hq] at h1
        cases hm : qs.mapM (fun p => (ks.zip (List.range' n ks.length)).lookup p) with
        | none => rw [hm] at h1; simp at h1
        | some l2 =>
          rw [hm] at h1
          simp at h1
          subst h1
          simp only [List.mapM_cons] at h2
          obtain ⟨w, a1, a2, a3⟩ := look hk hq
          have : (us ++ ws)[i]? = some w := by rw [List.getElem?_append_right (by omega), hn]; exact a3
          rw [this] at h2
          cases h3 : l2.mapM (fun k => (us ++ ws)[k]?) with
          | none => rw [h3] at h2; simp at h2
          | some o2 =>
            rw [h3] at h2
            simp at h2
            subst h2
            rw [a1, ih hm h3]
            simp
  have first : ∀ {l : List Nat} {out : List Value}, (List.range n ++ l).mapM (fun k => (us ++ ws)[k]?) = some out → ∃ o2, l.mapM (fun k => (us ++ ws)[k]?) = some o2 ∧ out = us ++ o2 := by
    intro l out h
    rw [List.mapM_append] at h
    have e1 : (List.range n).mapM (fun k => (us ++ ws)[k]?) = some us := by
      have : ∀ m ≤ n, (List.range m).mapM (fun k => (us ++ ws)[k]?) = some (us.take m) := by
        intro m
        induction m with
        | zero => intro _; simp
        | succ m ih =>
          intro hm
          have hmu : m < us.length := by omega
          rw [List.range_succ, List.mapM_append, ih (by omega)]
          have : (us ++ ws)[m]? = some us[m] := by rw [List.getElem?_append_left hmu, List.getElem?_eq_getElem hmu]
          simp [List.mapM_cons, this, List.take_add_one]
      rw [this n (Nat.le_refl _), ← hn, List.take_length]
    rw [e1] at h
    cases h3 : l.mapM (fun k => (us ++ ws)[k]?) with
    | none => rw [h3] at h; simp at h
    | some o2 => rw [h3] at h; simp at h; exact ⟨o2, rfl, h.symm⟩
  obtain ⟨o2, h2, rfl⟩ := first hm
  rw [rest h1 h2]
  rfl
def kwNames : List Keyword → Option (List Str)
  | [] => some []
  | ⟨some n, _, _⟩ :: r => (kwNames r).map (n :: ·)
  | ⟨none, _, _⟩ :: _ => none
theorem kwNames_ok : ∀ {kws : List Keyword} {ks : List Str}, kwNames kws = some ks → ∀ {env : Env} {p : Pos}, (backToKw p (keywordEach kws env)).filterMap (·.1) = ks ∧ (backToKw p (keywordEach kws env)).all (·.1.isSome) = true ∧ (backToKw p (keywordEach kws env)).any (·.1.isNone) = false
  | [], ks, h, env, p => by simp [kwNames] at h; subst h; exact ⟨rfl, rfl, rfl⟩
  | ⟨some n, v, q⟩ :: r, ks, h, env, p => by
    simp only [kwNames, Option.map_eq_some_iff] at h
    obtain ⟨ks', h1, rfl⟩ := h
    obtain ⟨a1, a2, a3⟩ := kwNames_ok h1 (env := env) (p := p)
    refine ⟨?_, ?_, ?_⟩
    · show n :: (backToKw p (keywordEach r env)).filterMap (·.1) = _
      rw [a1]
    · show (true && (backToKw p (keywordEach r env)).all (·.1.isSome)) = true
      rw [a2]; rfl
    · show (false || (backToKw p (keywordEach r env)).any (·.1.isNone)) = false
      rw [a3]; rfl
  | ⟨none, _, _⟩ :: _, _, h, _, _ => by simp [kwNames] at h
theorem PL.bd2 {S S1 H H1 : Hp} {σ : L2.St} {e e1 : En} {Q : V → Hp → Prop} {Q' : List V → Hp → Prop} {r : RL} {f : List RV → En → R} (g1 : Grow G.K S H σ e S1 H1 σ e1) (h : PR G S H σ e Q (r.bd f))
    (k : ∀ rs e2 xs S2 H2, r = .ok rs e2 → Grow G.K S1 H1 σ e1 S2 H2 σ e2 → RepRs G.K S2 H2 σ e2 rs xs → FrsA H1 σ e1 rs xs → PR G S H σ e Q (f rs e2) → Q' xs H2) : PL G S1 H1 σ e1 Q' r := by
  cases r with
  | st => exact h
  | ok r1 e1 => exact fun x S' H' g rp fr => k r1 e1 x S' H' rfl g rp fr h
  | ex x e' => exact PX.step g1 h
theorem PL.mono {S H : Hp} {σ : L2.St} {e : En} {Q Q' : List V → Hp → Prop} {r : RL} (h : PL G S H σ e Q r) (k : ∀ xs H', Q xs H' → Q' xs H') : PL G S H σ e Q' r := by
  cases r with
  | st => exact h
  | ok rs e' => exact fun xs S' H' g p f => k xs H' (h xs S' H' g p f)
  | ex x e' => exact h
noncomputable def semCallK (cs : List RV → En → R) (gl hl : En → RL) (pm : List Nat) (e : En) : R := (gl e).bd fun rs e1 => (hl e1).bd fun rs' e2 => match permd pm (rs ++ rs') with
    | some rs2 => cs rs2 e2
    | none => .st
theorem callK_read {Φ : Ph} {fn n : Nat} {cs : List RV → En → R} (hcs : Cs G Φ fn n cs) {pm : List Nat} {S S1 S2 H H1 H2 : Hp} {σ : L2.St} {e e1 e2 : En} {Q : VK} {rs rs' : List RV} {xs xs' : List V} (hpm : pm.Nodup) (g1 : Grow G.K S H σ e S1 H1 σ e1) (p1 : RepRs G.K S1 H1 σ e1 rs xs) (f1 : FrsA H σ e rs xs)
    (g2 : Grow G.K S1 H1 σ e1 S2 H2 σ e2) (p2 : RepRs G.K S2 H2 σ e2 rs' xs') (f2 : FrsA H1 σ e1 rs' xs')
    (k : PR G S H σ e Q (match permd pm (rs ++ rs') with
    | some rs2 => cs rs2 e2
    | none => .st)) : ∃ vs', pm.mapM (fun k => (xs ++ xs')[k]?) = some vs' ∧ rCall G.K G.xr Φ fn vs' H2 Q (fun cls d H' => G.W cls d (base G σ) H') ∧ vs'.length = n := by
  split at k
  · rename_i rs2 hp
    have pa : RepRs G.K S2 H2 σ e2 (rs ++ rs') (xs ++ xs') := (p1.grow g2).append p2 fun i ds x h1 h2 => by
      obtain ⟨y, y1, y2⟩ := p1.get h1
      rw [h2] at y1; cases y1
      exact noO_of p2 f2 y2
    obtain ⟨vs', q1, q2, q3, _⟩ := perm_reps pa (f1.append (f2.back g1)) hpm hp
    obtain ⟨z1, z2⟩ := hcs (g1.trans g2) q1 q2 k
    exact ⟨vs', q3, z1, z2⟩
  · exact k.elim
theorem s_callK {c : Cc} {Φ : Ph} (F : Fit X c G Φ) {x : Str} {fn : Nat} {cs : List RV → En → R} (hcs : Cs G Φ fn (c.md fn).length cs) {p : Pos} {gl hl : En → RL} {kws : List Keyword} {ks : List Str} {pm : List Nat} (hx : c.defs.lookup x = some fn) (hlen : (c.ps fn).length = (c.md fn).length) (hg : Gl X x) (hdb : (x == ("__debug__" : Str)) = false)
    (hpe : es.all plainX = true) (hks : kwNames kws = some ks) (hn1 : ks.Nodup) (hn2 : ∀ y ∈ ks, y ∈ (c.ps fn).drop es.length) (hpm : pm.Nodup) (hsel : kwSel (c.ps fn) (List.range es.length) (ks.zip (List.range' es.length ks.length)) = some pm)
    (ha : PA X es (tL G gl)) (hk : PK X kws (tL G hl)) (hla : ∀ e rs e1, gl e = .ok rs e1 → rs.length = es.length) (hlk : ∀ e rs e1, hl e = .ok rs e1 → rs.length = ks.length) (hnil : es = [] → gl = fun e => .ok [] e) : PE X (.Call (.Name x p) es kws pos) (tE G (semCallK cs gl hl pm)) := by
  obtain ⟨fa, h1, h2, run⟩ := F.call hx
  refine ⟨fun pins s σ H Q I ⟨τ, hτ, S, e, rel, lnk, k⟩ => ?_⟩
  subst hτ
  refine wpAny_Call_Name_kw (ld_glob I hg h1 ?_ hdb)
  obtain ⟨n1, n2, n3⟩ := kwNames_ok hks (env := X.env) (p := pos)
  have fin : ∀ {us ws : List Value} {xs zs : List V} {s2 : Shared} {H2 : Hp}, L2.Inv X pins (base G τ) H2 s2 → Vals xs us → Vals zs ws → xs.length = es.length → zs.length = ks.length → (∃ vs', pm.mapM (fun k => (xs ++ zs)[k]?) = some vs' ∧ rCall G.K G.xr Φ fn vs' H2 Q (fun cls d H' => G.W cls d (base G τ) H') ∧ vs'.length = (c.md fn).length) →
      wpAny (model X.prog X.w) X.A (call (.ref fa) us (ks.zip ws)) (EP X pins (base G τ) Q) X.xe s2 := by
    intro us ws xs zs s2 H2 I2 r1 r2 l1 l2 ⟨vs', q1, q2, q3⟩
    obtain ⟨us', u1, u2⟩ := vals_mapM (r1.append r2) q1
    have e1 : us.length = es.length := by rw [← r1.length, l1]
    have e2 : ws.length = ks.length := by rw [← r2.length, l2]
    have ez : (ks.zip ws).map (·.1) = ks := by rw [List.map_fst_zip (by omega)]
    exact run pins s2 (base G τ) H2 us us' (ks.zip ws) vs' Q I2 (by rw [ez]; exact hn1) (by rw [ez, e1]; exact hn2) (by rw [← u2.length, q3, hlen]) (kwSel_nat e1 e2 hsel u1) u2 q2
  -- what is asked of the positional part and of the keywords
  have read : tL G gl (base G τ) H fun xs H1 => tL G hl (base G τ) H1 fun zs H2 => xs.length = es.length ∧ zs.length = ks.length ∧ ∃ vs', pm.mapM (fun k => (xs ++ zs)[k]?) = some vs' ∧ rCall G.K G.xr Φ fn vs' H2 Q (fun cls d H' => G.W cls d (base G τ) H') ∧ vs'.length = (c.md fn).length :=
    ⟨τ, rfl, S, e, rel, lnk, PL.bd k fun rs e1 xs S1 H1 er g1 p1 f1 k1 => ⟨τ, rfl, S1, e1, g1.rel, lnk.mono g1.sub, PL.bd2 g1 k1 fun rs' e2 xs' S2 H2 er' g2 p2 f2 k2 =>
      ⟨by rw [← p1.length, hla _ _ _ er], by rw [← p2.length, hlk _ _ _ er'], callK_read hcs hpm g1 p1 f1 g2 p2 f2 k2⟩⟩⟩
  cases es with
  | nil =>
    refine PySem.W.callWith_KW0 (h₀ := X.base) I.ok.mod.kin h2 n2 ?_ (by rw [n3]; rfl)
    have read0 : tL G hl (base G τ) H fun zs H2 => zs.length = ks.length ∧ ∃ vs', pm.mapM (fun k => (([] : List V) ++ zs)[k]?) = some vs' ∧ rCall G.K G.xr Φ fn vs' H2 Q (fun cls d H' => G.W cls d (base G τ) H') ∧ vs'.length = (c.md fn).length := by
      obtain ⟨τ0, hτ0, S0, e0, rel0, lnk0, k0⟩ := read
      rw [hnil rfl] at k0
      have q0 := k0 [] S0 H rel0.grow .nil .nil
      obtain ⟨τ1, hτ1, S1, e1, rel1, lnk1, k1⟩ := q0
      exact ⟨τ1, hτ1, S1, e1, rel1, lnk1, PL.mono k1 fun zs H2 z => z.2⟩
    refine thn (hk.run pos pins s (base G τ) H _ I read0) fun ws s2 ⟨zs, H2, I2, r2, q2⟩ => ⟨I2.kIn, ?_⟩
    rw [n1]
    exact fin I2 .nil r2 rfl q2.1 q2.2
  | cons a es' =>
    obtain ⟨hpa, hpe'⟩ := Bool.and_eq_true_iff.mp (show (plainX a && es'.all plainX) = true from hpe)
    refine PySem.W.callWith_KW (h₀ := X.base) I.ok.mod.kin h2 n2 (thn (ha.run pos pins s (base G τ) H _ I read) fun us s1 ⟨xs, H1, I1, r1, q1⟩ => ?_) (by rw [star_flags hpe, n3]; rfl) (star_cons hpa)
    refine thn (hk.run pos pins s1 (base G τ) H1 _ I1 q1) fun ws s2 ⟨zs, H2, I2, r2, q2⟩ => ⟨I2.kIn, ?_⟩
    rw [n1]
    exact fin I2 r1 r2 q2.1 q2.2.1 q2.2.2
end
end Vc
end
section
set_option Elab.async false
set_option linter.all false
namespace Vc
open PySem PySem.Spec PyProof.Rows L2
variable [XrC]
def gs : List Nat → TGs
  | [] => gNil
  | i :: is => gCons (gName i) (gs is)
def tgG (K : Fg) : Tg → TG
  | .n i => gName i
  | .t is => gTup K is.length (gs is)
def tgIx : Tg → List Nat
  | .n i => [i]
  | .t is => is
section
variable {K : Fg} {S0 S H0 H : Hp} {σ0 σ : L2.St} {e0 e : En}
theorem gs_ok (b : L2.St → L2.St) : ∀ {is : List Nat} {vs : List V} {ds : List D} {σ : L2.St} {e e' : En}, (∀ i ∈ is, ∀ (τ : L2.St) x, b (τ.set i x) = (b τ).set i x) → Grow K S0 H0 σ0 e0 S H σ e → RpA K S vs ds → asgs is ds e = some e' →
    ∃ σ', (∀ Q : L2.St → Hp → Prop, Q (b σ') H → gs is vs (b σ) H Q) ∧ Grow K S0 H0 σ0 e0 S H σ' e' ∧ σ'.length = σ.length ∧ e'.length = e.length ∧ vs.length = is.length ∧ ∀ j : Nat, j ∉ is → σ'[j]? = σ[j]? ∧ e'[j]? = e[j]?
  | [], _, [], σ, e, e', hb, g, .nil, h => by
    simp [asgs] at h; subst h
    exact ⟨σ, fun Q q => ⟨rfl, q⟩, g, rfl, rfl, rfl, fun j _ => ⟨rfl, rfl⟩⟩
  | [], _, _ :: _, _, _, _, _, _, _, h => by simp [asgs] at h
  | _ :: _, _, [], _, _, _, _, _, _, h => by simp [asgs] at h
  | i :: is, v :: vs, d :: ds, σ, e, e', hb, g, .cons a r, h => by
    simp only [asgs] at h
    obtain ⟨σ', h1, h2, h3, h4, h5, h6⟩ := gs_ok b (fun j hj => hb j (List.mem_cons_of_mem _ hj)) (g.setV (i := i) a) r h
    rw [hb i (List.mem_cons_self ..)] at h1
    refine ⟨σ', fun Q q => ⟨v, vs, rfl, h1 Q q⟩, h2, by rw [h3, List.length_set], by rw [h4, List.length_set], by simp [h5], fun j hj => ?_⟩
    obtain ⟨n1, n2⟩ := not_or.mp (fun z => hj (List.mem_cons.mpr z))
    obtain ⟨z1, z2⟩ := h6 j n2
    rw [z1, z2, List.getElem?_set_ne (Ne.symm n1), List.getElem?_set_ne (Ne.symm n1)]
    exact ⟨rfl, rfl⟩
theorem tg_ok (b : L2.St → L2.St) {tg : Tg} {v : V} {d : D} {e' : En} (hb : ∀ i ∈ tgIx tg, ∀ (τ : L2.St) x, b (τ.set i x) = (b τ).set i x) (g : Grow K S0 H0 σ0 e0 S H σ e) (h : Rp K S v d) (ha : asgT tg d e = some e') :
    ∃ σ', (∀ Q : L2.St → Hp → Prop, Q (b σ') H → tgG K tg v (b σ) H Q) ∧ Grow K S0 H0 σ0 e0 S H σ' e' ∧ σ'.length = σ.length ∧ e'.length = e.length ∧ ∀ j : Nat, j ∉ tgIx tg → σ'[j]? = σ[j]? ∧ e'[j]? = e[j]? := by
  cases tg with
  | n i =>
    simp [asgT] at ha; subst ha
    refine ⟨σ.set i (some v), fun Q q => by rw [hb i (by simp [tgIx])] at q; exact q, g.setV h, List.length_set .., List.length_set .., fun j hj => ?_⟩
    have : i ≠ j := fun z => hj (by simp [tgIx, z])
    exact ⟨List.getElem?_set_ne this, List.getElem?_set_ne this⟩
  | t is =>
    cases h with
    | tup h1 h2 =>
      simp only [asgT] at ha
      obtain ⟨σ', q1, q2, q3, q4, q5, q6⟩ := gs_ok b hb g h2 ha
      exact ⟨σ', fun Q q => ⟨_, _, rfl, g.rel.sub.sqT h1, q5, q1 Q q⟩, q2, q3, q4, q6⟩
    | _ => simp [asgT] at ha
end
section
variable {X : Cx} {c : Cc} {G : Gx} {Φ : Ph}
def nmB (c : Cc) (i : Nat) : Expr → Bool
  | .Name x _ => c.N[i]? == some x && (locB c.sc x && (locB c.os x && !(c.pr.contains i)))
  | _ => false
def nmsB (c : Cc) : List Nat → List Expr → Bool
  | [], [] => true
  | i :: is, e :: es => nmB c i e && nmsB c is es
  | _, _ => false
def chkTg (c : Cc) : Tg → Expr → Bool
  | .n i, e => nmB c i e
  | .t is, .Tuple es _ _ => nmsB c is es
  | _, _ => false
theorem s_nm (F : Fit X c G Φ) {i : Nat} {e : Expr} (h : nmB c i e = true) : PG X e (gName i) ∧ i ∉ c.pr ∧ assignEach [e] X.env = [(false, assign e X.env)] := by
  cases e <;> simp [nmB] at h
  rename_i x p
  obtain ⟨h1, h2, h4, h3⟩ := h
  have hl := locB_ok h2
  exact ⟨pg_name (by rw [F.N]; exact F.nd) (by rw [F.N]; exact h1) (by rw [F.sc]; exact hl) (by rw [F.sc]; exact F.loc x hl (locB_ok h4)), by simpa using h3, rfl⟩
theorem nm_each {i : Nat} {e : Expr} {es : List Expr} {env : Env} (h : nmB c i e = true) : assignEach (e :: es) env = (false, assign e env) :: assignEach es env := by
  cases e <;> simp [nmB] at h
  rfl
theorem s_nms (F : Fit X c G Φ) : ∀ {is : List Nat} {es : List Expr}, nmsB c is es = true → PGs X es (gs is) ∧ (∀ i ∈ is, i ∉ c.pr) ∧ (assignEach es X.env).length = is.length ∧ (assignEach es X.env).findIdx? (·.1) = none
  | [], [], _ => ⟨pgs_nil, fun i h => by simp at h, rfl, rfl⟩
  | [], _ :: _, h => by simp [nmsB] at h
  | _ :: _, [], h => by simp [nmsB] at h
  | i :: is, e :: es, h => by
    obtain ⟨h1, h2⟩ := Bool.and_eq_true_iff.mp (show (nmB c i e && nmsB c is es) = true from h)
    obtain ⟨a1, a2, a3⟩ := s_nm F h1
    obtain ⟨b1, b2, b3, b4⟩ := s_nms F h2
    have he := nm_each (es := es) (env := X.env) h1
    refine ⟨pgs_cons a1 b1 (by rw [he]; rfl), fun j hj => ?_, by rw [he]; simp [b3], by rw [he, List.findIdx?_cons]; simp [b4]⟩
    rcases List.mem_cons.mp hj with rfl | hj
    · exact a2
    · exact b2 j hj
theorem s_tg (F : Fit X c G Φ) {tg : Tg} {e : Expr} (h : chkTg c tg e = true) : PG X e (tgG X.K tg) ∧ ∀ i ∈ tgIx tg, i ∉ c.pr := by
  cases tg with
  | n i =>
    obtain ⟨a1, a2, _⟩ := s_nm F (show nmB c i e = true from h)
    exact ⟨a1, fun j hj => by simp [tgIx] at hj; subst hj; exact a2⟩
  | t is =>
    cases e <;> simp [chkTg] at h
    obtain ⟨b1, b2, b3, b4⟩ := s_nms F h
    exact ⟨pg_tup F.calm b1 b3 b4, b2⟩
end

def LkH (lka : Option (Addr × List V)) (H : Hp) : Prop := ∀ a xs, lka = some (a, xs) → H a = some (.lst xs)
def LkA (σ : L2.St) (H : Hp) (e : En) : Option Nat → Option (Addr × List V) → Prop
  | none, lka => lka = none
  | some i, lka => ∃ (a : Addr) (xs : List V) (ds : List D), e[i]? = some (Sl.o ds) ∧ σ[i]? = some (some (V.ref a)) ∧ H a = some (.lst xs) ∧ lka = some (a, xs)
structure Wk (K : Fg) (S0 : Hp) (lka : Option (Addr × List V)) (ds : List D) (J : It) : Prop where
  stop : ∀ H, Sub S0 H → LkH lka H → J.stop ds.length H
  go : ∀ i H, Sub S0 H → LkH lka H → i < ds.length → J.go i H
  yld : ∀ i H x H' d (σ : L2.St) (e : En) S, Sub S0 S → LkH lka H → Rel K S H σ e → J.yld i H x H' → ds[i]? = some d → ∃ S', Grow K S H σ e S' H' σ e ∧ Rp K S' x d
section
variable {K : Fg} {S0 : Hp}
theorem wk_lst {a : Addr} {xs : List V} {ds : List D} {lka : Option (Addr × List V)} (h : ∀ H, Sub S0 H → LkH lka H → SqL K H a xs) (r : RpA K S0 xs ds) : Wk K S0 lka ds (Itl K a) := by
  refine ⟨fun H s l => ⟨xs, h H s l, by rw [r.length]; exact Nat.le_refl _⟩, fun i H s l hi => ?_, fun i H x H' d σ e S s l q y hd => ?_⟩
  · obtain ⟨x, h1, _⟩ := r.get (List.getElem?_eq_getElem hi)
    exact ⟨xs, x, h H s l, h1⟩
  · obtain ⟨rfl, y⟩ := y
    obtain ⟨x', h1, h2⟩ := r.get hd
    have := y xs (h _ (s.tr q.sub) l)
    rw [h1] at this; cases this
    exact ⟨S, q.grow, h2.mono s⟩
theorem wk_tup {a : Addr} {xs : List V} {ds : List D} (h : SqT K S0 a xs) (r : RpA K S0 xs ds) : Wk K S0 none ds (Itt K a) := by
  refine ⟨fun H s l => ⟨xs, s.sqT h, by rw [r.length]; exact Nat.le_refl _⟩, fun i H s l hi => ?_, fun i H x H' d σ e S s l q y hd => ?_⟩
  · obtain ⟨x, h1, _⟩ := r.get (List.getElem?_eq_getElem hi)
    exact ⟨xs, x, s.sqT h, h1⟩
  · obtain ⟨rfl, y⟩ := y
    obtain ⟨x', h1, h2⟩ := r.get hd
    have := y xs ((s.tr q.sub).sqT h)
    rw [h1] at this; cases this
    exact ⟨S, q.grow, h2.mono s⟩
theorem wk_rng (lo : Int) (n : Nat) : Wk K S0 none (upto lo n) (Itr lo n) := by
  refine ⟨fun H s l => ?_, fun i H s l hi => ?_, fun i H x H' d σ e S s l q y hd => ?_⟩
  · show n ≤ (upto lo n).length
    simp [upto]
  · show i < n
    simpa [upto] using hi
  · obtain ⟨rfl, rfl⟩ := y
    refine ⟨S, q.grow, ?_⟩
    simp only [upto, List.getElem?_map] at hd
    cases hr : (List.range n)[i]? with
    | none => rw [hr] at hd; cases hd
    | some k =>
      rw [hr] at hd
      obtain ⟨hl, e1⟩ := List.getElem?_eq_some_iff.mp hr
      rw [List.getElem_range] at e1
      subst e1
      cases hd
      exact .int _
theorem wk_rngC (lo c : Int) (n : Nat) : Wk K S0 none (steps lo c n) (Itc lo c n) := by
  refine ⟨fun H s l => ?_, fun i H s l hi => ?_, fun i H x H' d σ e S s l q y hd => ?_⟩
  · show n ≤ (steps lo c n).length
    simp [steps]
  · show i < n
    simpa [steps] using hi
  · obtain ⟨rfl, rfl⟩ := y
    refine ⟨S, q.grow, ?_⟩
    simp only [steps, List.getElem?_map] at hd
    cases hr : (List.range n)[i]? with
    | none => rw [hr] at hd; cases hd
    | some k =>
      rw [hr] at hd
      obtain ⟨hl, e1⟩ := List.getElem?_eq_some_iff.mp hr
      rw [List.getElem_range] at e1
      subst e1
      cases hd
      exact .int _
theorem enum_get {ds : List D} {i : Nat} {d : D} (h : (enum ds)[i]? = some d) : ∃ z, ds[i]? = some z ∧ d = .tuple [.int (i : Nat), z] := by
  simp only [enum, List.getElem?_map, List.getElem?_zipIdx] at h
  cases hd : ds[i]? with
  | none => rw [hd] at h; simp at h
  | some z => rw [hd] at h; simp at h; exact ⟨z, rfl, h.symm⟩
theorem enum_len {ds : List D} : (enum ds).length = ds.length := by simp [enum]
theorem wk_enum {a : Addr} {xs : List V} {ds : List D} {lka : Option (Addr × List V)} (h : ∀ H, Sub S0 H → LkH lka H → SqL K H a xs) (r : RpA K S0 xs ds) : Wk K S0 lka (enum ds) (Ite K a) := by
  refine ⟨fun H s l => ⟨xs, h H s l, by rw [r.length, enum_len]; exact Nat.le_refl _⟩, fun i H s l hi => ?_, fun i H x H' d σ e S s l q y hd => ?_⟩
  · rw [enum_len] at hi
    obtain ⟨x, h1, _⟩ := r.get (List.getElem?_eq_getElem hi)
    exact ⟨xs, x, h H s l, h1⟩
  · obtain ⟨T, x', rfl, hT, rfl, y⟩ := y
    obtain ⟨z, z1, rfl⟩ := enum_get hd
    obtain ⟨w, h1, h2⟩ := r.get z1
    have := y xs (h _ (s.tr q.sub) l)
    rw [h1] at this; cases this
    exact q.grow.tup hT (.cons (.int _) (.cons (h2.mono s) .nil))
theorem zipD_get {ds es : List D} {i : Nat} {d : D} (h : (zipD ds es)[i]? = some d) : ∃ y z, ds[i]? = some y ∧ es[i]? = some z ∧ d = .tuple [y, z] := by
  simp only [zipD, List.getElem?_map] at h
  cases hp : (ds.zip es)[i]? with
  | none => rw [hp] at h; cases h
  | some p =>
    rw [hp] at h
    cases h
    obtain ⟨h1, h2⟩ := List.getElem?_zip_eq_some.mp hp
    exact ⟨_, _, h1, h2, rfl⟩
theorem wk_zip {a b : Addr} {xs ys : List V} {ds es : List D} (h : S0 a = some (.lst xs)) (h' : S0 b = some (.lst ys)) (r : RpA K S0 xs ds) (r' : RpA K S0 ys es) : Wk K S0 none (zipD ds es) (Itz K a b) := by
  have hl : (zipD ds es).length = min xs.length ys.length := by simp [zipD, r.length, r'.length]
  refine ⟨fun H s l => ⟨xs, ys, sqL_of (s _ _ h), sqL_of (s _ _ h'), by rw [hl]; omega⟩, fun i H s l hi => ?_, fun i H x H' d σ e S s l q y hd => ?_⟩
  · rw [hl] at hi
    exact ⟨xs, ys, xs[i], ys[i], sqL_of (s _ _ h), sqL_of (s _ _ h'), List.getElem?_eq_getElem (by omega), List.getElem?_eq_getElem (by omega)⟩
  · obtain ⟨T, x1, x2, rfl, hT, rfl, y1, y2⟩ := y
    obtain ⟨z1, z2, h1, h2, rfl⟩ := zipD_get hd
    obtain ⟨w1, a1, a2⟩ := r.get h1
    obtain ⟨w2, b1, b2⟩ := r'.get h2
    have e1 := y1 xs (sqL_of (s.tr q.sub _ _ h))
    have e2 := y2 ys (sqL_of (s.tr q.sub _ _ h'))
    rw [a1] at e1; cases e1
    rw [b1] at e2; cases e2
    exact q.grow.tup hT (.cons (a2.mono s) (.cons (b2.mono s) .nil))
end
def tI (G : Gx) (f : En → RI) : TI := fun σ H R => ∃ τ, base G τ = σ ∧ ∃ S e, Rel G.K S H τ e ∧ Lk G τ S ∧ match f e with
  | .st => False
  | .ex x e' => PX G S H τ e x e'
  | .ok ds lk e' => ∀ S' H' J lka, Grow G.K S H τ e S' H' τ e' → LkA τ H' e' lk lka → Wk G.K S' lka ds J → R J H'
theorem PIwk {X : Cx} {tg iter : Expr} {w w' : TI} (h : PI X tg iter w) (k : ∀ σ H R, w' σ H R → w σ H R) : PI X tg iter w' := ⟨fun pins s σ H R I q => h.run pins s σ H R I (k σ H R q)⟩
section
variable {X : Cx} {G : Gx} {a b tg : Expr} {es : List Expr} {pos : Pos} {f g : En → R} {Φ : Ph} {c : Cc}
noncomputable def semIt (tup brw : Bool) (f : En → R) (e : En) : RI := (f e).bi fun r e1 => itOf tup brw r e1
theorem it_lst {brw : Bool} {r : RV} {ds : List D} {lk : Option Nat} {S S1 H H1 : Hp} {σ : L2.St} {e e1 e' : En} {x : V} (g1 : Grow G.K S H σ e S1 H1 σ e1) (p1 : RepR G.K S1 H1 σ e1 r x) (f1 : Frs H σ e r x) (h : itOf false brw r e1 = .ok ds lk e') :
    ∃ a xs, x = V.ref a ∧ H1 a = some (.lst xs) ∧ ∃ S', ∃ lka, Grow G.K S H σ e S' H1 σ e' ∧ LkA σ H1 e' lk lka ∧ RpA G.K S' xs ds ∧ ∀ H2, Sub S' H2 → LkH lka H2 → SqL G.K H2 a xs := by
  unfold itOf at h
  split at h
  · rename_i i
    split at h
    · rename_i ds' hi
      simp at h
      obtain ⟨rfl, rfl, rfl⟩ := h
      obtain ⟨a, xs, h1, h2, h3, h4⟩ := g1.rel.own i _ hi
      have hx : σ[i]? = some (some x) := p1
      have h1' := h1
      rw [hx] at h1'; cases h1'
      exact ⟨a, xs, rfl, h2, S1, some (a, xs), g1, ⟨a, xs, _, hi, h1, h2, rfl⟩, h4, fun H2 _ l => sqL_of (l a xs rfl)⟩
    · cases h
  · cases h
  · split at h
    · rename_i ds' e2 hv
      simp at h
      obtain ⟨rfl, rfl, rfl⟩ := h
      obtain ⟨S', g', s', p', _⟩ := toV_ok g1 p1 f1 hv
      cases p' with
      | lst a1 a2 => exact ⟨_, _, rfl, g'.rel.sub _ _ a1, S', none, g', rfl, a2, fun H2 s _ => sqL_of (s _ _ a1)⟩
    · simp at h
    · cases h
theorem s_it_list {brw : Bool} (hK : X.K = G.K) (ha : PE X a (tE G f)) : PI X tg a (tI G (semIt false brw f)) := PIwk (pi_list ha) fun σ H R ⟨τ, hτ, S, e, rel, lnk, k⟩ => ⟨τ, hτ, S, e, rel, lnk, by
  unfold semIt at k
  cases hf : f e with
  | st => rw [hf] at k; exact k
  | ex x e1 => rw [hf] at k; exact k
  | ok r e1 =>
    rw [hf] at k
    intro x S1 H1 g1 p1 f1
    have k : match itOf false brw r e1 with
      | .st => False
      | .ex x e' => PX G S H τ e x e'
      | .ok ds lk e' => ∀ S' H' J lka, Grow G.K S H τ e S' H' τ e' → LkA τ H' e' lk lka → Wk G.K S' lka ds J → R J H' := k
    cases hi : itOf false brw r e1 with
    | st => rw [hi] at k; exact k.elim
    | ex x e' =>
      exfalso
      unfold itOf at hi
      split at hi <;> (try split at hi) <;> simp at hi
    | ok ds lk e' =>
      rw [hi] at k
      obtain ⟨a', xs, rfl, h1, S', lka, g2, l2, r2, w2⟩ := it_lst g1 p1 f1 hi
      rw [hK]
      exact ⟨a', rfl, ⟨xs, sqL_of h1⟩, k S' H1 _ lka g2 l2 (wk_lst w2 r2)⟩⟩
theorem s_it_tup (hK : X.K = G.K) (ha : PE X a (tE G f)) : PI X tg a (tI G (semIt true false f)) := PIwk (pi_tup ha) fun σ H R ⟨τ, hτ, S, e, rel, lnk, k⟩ => ⟨τ, hτ, S, e, rel, lnk, by
  unfold semIt at k
  cases hf : f e with
  | st => rw [hf] at k; exact k
  | ex x e1 => rw [hf] at k; exact k
  | ok r e1 =>
    rw [hf] at k
    intro x S1 H1 g1 p1 f1
    have k : match itOf true false r e1 with
      | .st => False
      | .ex x e' => PX G S H τ e x e'
      | .ok ds lk e' => ∀ S' H' J lka, Grow G.K S H τ e S' H' τ e' → LkA τ H' e' lk lka → Wk G.K S' lka ds J → R J H' := k
    cases hi : itOf true false r e1 with
    | st => rw [hi] at k; exact k.elim
    | ex x e' =>
      exfalso
      unfold itOf at hi
      simp only at hi
      split at hi <;> simp at hi
    | ok ds lk e' =>
      rw [hi] at k
      unfold itOf at hi
      simp only at hi
      split at hi
      · simp at hi
      · rename_i ds' e2 hv
        simp at hi
        obtain ⟨rfl, rfl, rfl⟩ := hi
        obtain ⟨S', g', s', p', _⟩ := toV_ok g1 p1 f1 hv
        cases p' with
        | tup a1 a2 =>
          rw [hK]
          exact ⟨_, rfl, ⟨_, g'.rel.sub.sqT a1⟩, k S' H1 _ none g' rfl (wk_tup a1 a2)⟩
      · cases hi⟩
theorem wk_rvt {K : Fg} {S0 : Hp} {a : Addr} {xs : List V} {ds : List D} (h : SqT K S0 a xs) (r : RpA K S0 xs ds) : Wk K S0 none ds.reverse (RT.ItvT K a xs.length) := by
  have hl := r.length
  have rv : ∀ (i : Nat) (d : D), ds.reverse[i]? = some d → i < ds.length ∧ ds[ds.length - 1 - i]? = some d := fun i d hd => by
    have hi : i < ds.length := by have := (List.getElem?_eq_some_iff.mp hd).1; simpa using this
    rw [List.getElem?_reverse hi] at hd
    exact ⟨hi, hd⟩
  refine ⟨fun H s l => ?_, fun i H s l hi => ?_, fun i H x H' d σ e S s l q y hd => ?_⟩
  · show xs.length ≤ ds.reverse.length
    rw [List.length_reverse, hl]; exact Nat.le_refl _
  · obtain ⟨h1, h2⟩ := rv i _ (List.getElem?_eq_getElem hi)
    obtain ⟨x, h3, _⟩ := r.get h2
    rw [← hl] at h3
    exact ⟨by omega, xs, x, s.sqT h, h3⟩
  · obtain ⟨rfl, y⟩ := y
    obtain ⟨h1, h2⟩ := rv i d hd
    obtain ⟨x', h3, h4⟩ := r.get h2
    rw [← hl] at h3
    have := y xs ((s.tr q.sub).sqT h)
    rw [h3] at this; cases this
    exact ⟨S, q.grow, h4.mono s⟩
theorem wk_chs {K : Fg} {S0 : Hp} (z : Str) : Wk K S0 none (z.cps.toList.map fun c => .str ⟨#[c]⟩) (Its z) := by
  have ln : (z.cps.toList.map fun c => PyData.str ⟨#[c]⟩).length = z.cps.size := by simp
  refine ⟨fun H s l => ?_, fun i H s l hi => ?_, fun i H x H' d σ e S s l q y hd => ?_⟩
  · show z.cps.size ≤ _
    rw [ln]; exact Nat.le_refl _
  · show i < z.cps.size
    rwa [ln] at hi
  · obtain ⟨rfl, c, hc, rfl⟩ := y
    rw [List.getElem?_map, Array.getElem?_toList, hc] at hd
    cases hd
    exact ⟨S, q.grow, .str _⟩
noncomputable def semRvt (f : En → R) (e : En) : RI := (f e).bi fun r e1 => rvtOf r e1
theorem s_rvt (F : Fit X c G Φ) {p : Pos} (hg : Gl X "reversed") (hp : plainX a = true) (ha : PE X a (tE G f)) : PI X tg (.Call (.Name "reversed" p) [a] [] pos) (tI G (semRvt f)) := PIwk (RT.pi_revA hg (F.blt _ (by decide)) ha (star_cons hp)) fun σ H R ⟨τ, hτ, S, e, rel, lnk, k⟩ => ⟨τ, hτ, S, e, rel, lnk, by
  unfold semRvt at k
  cases hf : f e with
  | st => rw [hf] at k; exact k
  | ex x e1 => rw [hf] at k; exact k
  | ok r e1 =>
    rw [hf] at k
    intro x S1 H1 g1 p1 f1
    have k : match rvtOf r e1 with
      | .st => False
      | .ex x e' => PX G S H τ e x e'
      | .ok ds lk e' => ∀ S' H' J lka, Grow G.K S H τ e S' H' τ e' → LkA τ H' e' lk lka → Wk G.K S' lka ds J → R J H' := k
    cases hv : toV e1 r with
    | none => simp only [rvtOf, hv] at k
    | some q =>
      obtain ⟨d, e2⟩ := q
      cases d with
      | tuple ds =>
        simp only [rvtOf, hv] at k
        obtain ⟨S', g', s', p', _⟩ := toV_ok g1 p1 f1 hv
        cases p' with
        | tup a1 a2 =>
          rw [F.K]
          exact ⟨_, _, rfl, .inr ⟨g'.rel.sub.sqT a1, k S' H1 _ none g' rfl (wk_rvt a1 a2)⟩⟩
      | _ => simp only [rvtOf, hv] at k⟩
noncomputable def semChs (f : En → R) (e : En) : RI := (f e).bi fun r e1 => chsOf r e1
theorem s_chs (ha : PE X a (tE G f)) : PI X tg a (tI G (semChs f)) := PIwk (pi_str ha) fun σ H R ⟨τ, hτ, S, e, rel, lnk, k⟩ => ⟨τ, hτ, S, e, rel, lnk, by
  unfold semChs at k
  cases hf : f e with
  | st => rw [hf] at k; exact k
  | ex x e1 => rw [hf] at k; exact k
  | ok r e1 =>
    rw [hf] at k
    intro x S1 H1 g1 p1 f1
    have k : match chsOf r e1 with
      | .st => False
      | .ex x e' => PX G S H τ e x e'
      | .ok ds lk e' => ∀ S' H' J lka, Grow G.K S H τ e S' H' τ e' → LkA τ H' e' lk lka → Wk G.K S' lka ds J → R J H' := k
    cases hz : res e1 r with
    | none => simp only [chsOf, hz] at k
    | some d =>
      cases d with
      | str z =>
        simp only [chsOf, hz] at k
        obtain rfl := (res_ok g1.rel p1 hz).str
        exact ⟨_, rfl, k S1 H1 _ none g1 rfl (wk_chs z)⟩
      | _ => simp only [chsOf, hz] at k⟩
noncomputable def semEnu (brw : Bool) (f : En → R) (e : En) : RI := (f e).bi fun r e1 => enuOf brw r e1
theorem enu_it {brw : Bool} {r : RV} {e1 e' : En} {ds : List D} {lk : Option Nat} (h : enuOf brw r e1 = .ok ds lk e') : ∃ ds', itOf false brw r e1 = .ok ds' lk e' ∧ ds = enum ds' := by
  unfold enuOf at h
  unfold itOf
  split at h
  · split at h
    · rename_i ds' hi
      simp at h
      obtain ⟨rfl, rfl, rfl⟩ := h
      exact ⟨ds', by simp [hi], rfl⟩
    · cases h
  · cases h
  · split at h
    · rename_i ds' e2 hv
      simp at h
      obtain ⟨rfl, rfl, rfl⟩ := h
      exact ⟨ds', by simp [hv], rfl⟩
    · cases h
theorem s_enu {brw : Bool} (F : Fit X c G Φ) {p tpos : Pos} {elts : List Expr} {kk : Nat} (hg : Gl X "enumerate") (hp : plainX a = true) (ha : PE X a (tE G f)) : PI X (.Tuple elts kk tpos) (.Call (.Name "enumerate" p) [a] [] pos) (tI G (semEnu brw f)) := by
  refine PIwk (pi_enum hg (F.blt _ (by decide)) (pa_cons ha pa_nil (star_cons hp)) (star_cons hp)) fun σ H R ⟨τ, hτ, S, e, rel, lnk, k⟩ => ⟨τ, hτ, S, e, rel, lnk, ?_⟩
  unfold semEnu at k
  cases hf : f e with
  | st => rw [hf] at k; exact k
  | ex x e1 => rw [hf] at k; exact k
  | ok r e1 =>
    rw [hf] at k
    intro x S1 H1 g1 p1 f1
    have k : match enuOf brw r e1 with
      | .st => False
      | .ex x e' => PX G S H τ e x e'
      | .ok ds lk e' => ∀ S' H' J lka, Grow G.K S H τ e S' H' τ e' → LkA τ H' e' lk lka → Wk G.K S' lka ds J → R J H' := k
    cases hi : enuOf brw r e1 with
    | st => rw [hi] at k; exact k.elim
    | ex x e' =>
      exfalso
      unfold enuOf at hi
      split at hi <;> (try split at hi) <;> simp at hi
    | ok ds lk e' =>
      rw [hi] at k
      obtain ⟨ds', hi', rfl⟩ := enu_it hi
      obtain ⟨a', xs, rfl, h1, S', lka, g2, l2, r2, w2⟩ := it_lst g1 p1 f1 hi'
      rw [F.K]
      exact ⟨a', xs, rfl, sqL_of h1, k S' H1 _ lka g2 l2 (wk_enum w2 r2)⟩
noncomputable def semZip (f g : En → R) (e : En) : RI := (f e).bi fun r e1 => (g e1).bi fun r' e2 => zipOf r r' e2
theorem s_zip (F : Fit X c G Φ) {p tpos : Pos} {elts : List Expr} {kk : Nat} (hg : Gl X "zip") (hp : plainX a = true) (hp' : plainX b = true) (ha : PE X a (tE G f)) (hb : PE X b (tE G g)) : PI X (.Tuple elts kk tpos) (.Call (.Name "zip" p) [a, b] [] pos) (tI G (semZip f g)) := by
  refine PIwk (pi_zip hg (F.blt _ (by decide)) (s_cons hp ha (s_cons hp' hb s_nil)) (star_cons hp) (star_flags (es := [b]) (by rw [List.all_cons, hp']; rfl))) fun σ H R ⟨τ, hτ, S, e, rel, lnk, k⟩ => ⟨τ, hτ, S, e, rel, lnk, ?_⟩
  unfold semZip at k
  unfold semCons
  cases hf : f e with
  | st => rw [hf] at k; exact k
  | ex x e1 => rw [hf] at k; exact k
  | ok r e1 =>
    rw [hf] at k
    have k : match (g e1).bi fun r' e2 => zipOf r r' e2 with
      | .st => False
      | .ex x e' => PX G S H τ e x e'
      | .ok ds lk e' => ∀ S' H' J lka, Grow G.K S H τ e S' H' τ e' → LkA τ H' e' lk lka → Wk G.K S' lka ds J → R J H' := k
    simp only [semCons]
    cases hg : g e1 with
    | st => rw [hg] at k; exact k.elim
    | ex x e2 => rw [hg] at k; exact k
    | ok r' e2 =>
      rw [hg] at k
      have k : match zipOf r r' e2 with
        | .st => False
        | .ex x e' => PX G S H τ e x e'
        | .ok ds lk e' => ∀ S' H' J lka, Grow G.K S H τ e S' H' τ e' → LkA τ H' e' lk lka → Wk G.K S' lka ds J → R J H' := k
      intro xs S2 H2 g2 p2 f2
      cases hz : zipOf r r' e2 with
      | st => rw [hz] at k; exact k.elim
      | ex x e' =>
        exfalso
        unfold zipOf at hz
        split at hz <;> simp at hz
      | ok ds lk e' =>
        rw [hz] at k
        unfold zipOf at hz
        split at hz
        · rename_i ds1 ds2 e3 hv
          simp at hz
          obtain ⟨rfl, rfl, rfl⟩ := hz
          obtain ⟨S', g', s', pa⟩ := toVs_ok g2 p2 f2 hv
          obtain ⟨x, y, rfl, q1, q2⟩ := rpA2 pa
          cases q1 with
          | lst a1 a2 =>
            cases q2 with
            | lst b1 b2 =>
              rw [F.K]
              exact ⟨_, _, _, _, rfl, sqL_of (g'.rel.sub _ _ a1), sqL_of (g'.rel.sub _ _ b1), k S' H2 _ none g' rfl (wk_zip a1 b1 a2 b2)⟩
        · cases hz
noncomputable def semRng (gl : En → RL) (e : En) : RI := (gl e).bi fun rs e1 => rngOf rs e1
theorem s_rng (F : Fit X c G Φ) {p : Pos} {gl : En → RL} (hg : Gl X "range") (hl : 0 < es.length ∧ es.length ≤ 3) (hpe : es.all plainX = true) (hlen : ∀ e rs e1, gl e = .ok rs e1 → rs.length = es.length) (ha : PA X es (tL G gl)) : PI X tg (.Call (.Name "range" p) es [] pos) (tI G (semRng gl)) := by
  have hm : X.mg "range" = none := F.blt _ (by decide)
  -- what the rules ask
  have read : ∀ (σ : L2.St) (H : Hp) (R : It → Hp → Prop), tI G (semRng gl) σ H R → tL G gl σ H fun vs H1 => vs.length = es.length ∧
      ((∃ j : Int, vs = [.int j] ∧ -(2 ^ 62) ≤ j ∧ j < 2 ^ 62 ∧ R (Itr 0 j.toNat) H1) ∨ (∃ i j : Int, vs = [.int i, .int j] ∧ (-(2 ^ 62) ≤ i ∧ i < 2 ^ 62 ∧ -(2 ^ 62) ≤ j ∧ j < 2 ^ 62) ∧ R (Itr i (j - i).toNat) H1) ∨
        ∃ (i j c : Int) (n : Nat), vs = [.int i, .int j, .int c] ∧ RgC i j c n ∧ R (Itc i c n) H1) := by
    intro σ H R ⟨τ, hτ, S, e, rel, lnk, k⟩
    refine ⟨τ, hτ, S, e, rel, lnk, ?_⟩
    unfold semRng at k
    cases hf : gl e with
    | st => rw [hf] at k; exact k
    | ex x e1 => rw [hf] at k; exact k
    | ok rs e1 =>
      rw [hf] at k
      have k : match rngOf rs e1 with
        | .st => False
        | .ex x e' => PX G S H τ e x e'
        | .ok ds lk e' => ∀ S' H' J lka, Grow G.K S H τ e S' H' τ e' → LkA τ H' e' lk lka → Wk G.K S' lka ds J → R J H' := k
      intro vs S1 H1 g1 p1 f1
      refine ⟨by rw [← p1.length, hlen _ _ _ hf], ?_⟩
      unfold rngOf at k
      split at k
      · exact k.elim
      · rename_i hr
        split at hr <;> cases hr
      · rename_i ds lk e' hr
        split at hr
        · rename_i ds' hd
          cases hr
          obtain ⟨dd, h1, h2⟩ := Option.bind_eq_some_iff.mp hd
          have z := ress_ok g1.rel p1 h1
          unfold rngD at h2
          split at h2
          · split at h2
            · rename_i ok
              cases h2
              obtain ⟨x, rfl, z1⟩ := pair1 z
              obtain rfl := z1.int
              have ok := cd_iff.mp ok
              exact .inl ⟨_, rfl, ok.2.2.1, ok.2.2.2, k S1 H1 _ none g1 rfl (wk_rng 0 _)⟩
            · cases h2
          · split at h2
            · rename_i ok
              cases h2
              obtain ⟨x, y, rfl, z1, z2⟩ := pair2 z
              obtain rfl := z1.int
              obtain rfl := z2.int
              have ok := cd_iff.mp ok
              exact .inr (.inl ⟨_, _, rfl, ok, k S1 H1 _ none g1 rfl (wk_rng _ _)⟩)
            · cases h2
          · split at h2
            · rename_i ok
              cases h2
              cases z with
              | cons z1 z =>
                obtain ⟨y, w, rfl, z2, z3⟩ := pair2 z
                obtain rfl := z1.int
                obtain rfl := z2.int
                obtain rfl := z3.int
                obtain ⟨ok1, ok2⟩ := Bool.and_eq_true_iff.mp ok
                have ok1 := cd_iff.mp ok1
                exact .inr (.inr ⟨_, _, _, _, rfl, ⟨ok1.1, ok1.2, ok2, rangeSize_toNat _ _ _⟩, k S1 H1 _ none g1 rfl (wk_rngC _ _ _)⟩)
            · cases h2
          · cases h2
        · cases hr
  match es, hl, hpe, hlen, ha, read with
  | [a], _, hpe, _, ha, read =>
    have hpa : plainX a = true := by simpa using hpe
    refine PIwk (pi_range1 hg hm ha (by rw [star_cons hpa]; rfl)) fun σ H R q => ?_
    obtain ⟨τ, hτ, S, e, rel, lnk, k⟩ := read σ H R q
    refine ⟨τ, hτ, S, e, rel, lnk, PL.mono k fun vs H1 z => ?_⟩
    obtain ⟨zl, z | ⟨i, j, rfl, _⟩ | ⟨i, j, cc, n, rfl, _⟩⟩ := z
    · exact z
    · simp at zl
    · simp at zl
  | [a, b], _, hpe, _, ha, read =>
    have hpa : plainX a = true := by simp at hpe; exact hpe.1
    have hpb : plainX b = true := by simp at hpe; exact hpe.2
    refine PIwk (pi_range2 hg hm ha (by rw [star_cons hpa, star_cons hpb]; rfl) (by rw [star_cons hpb]; rfl)) fun σ H R q => ?_
    obtain ⟨τ, hτ, S, e, rel, lnk, k⟩ := read σ H R q
    refine ⟨τ, hτ, S, e, rel, lnk, PL.mono k fun vs H1 z => ?_⟩
    obtain ⟨zl, ⟨j, rfl, _⟩ | z | ⟨i, j, cc, n, rfl, _⟩⟩ := z
    · simp at zl
    · exact z
    · simp at zl
  | [a, b, d], _, hpe, _, ha, read =>
    have hpa : plainX a = true := by simp at hpe; exact hpe.1
    have hpb : [b, d].all plainX = true := by simp at hpe ⊢; exact hpe.2
    refine PIwk (pi_range3 hg hm ha (star_cons hpa) (star_flags hpb)) fun σ H R q => ?_
    obtain ⟨τ, hτ, S, e, rel, lnk, k⟩ := read σ H R q
    refine ⟨τ, hτ, S, e, rel, lnk, PL.mono k fun vs H1 z => ?_⟩
    obtain ⟨zl, ⟨j, rfl, _⟩ | ⟨i, j, rfl, _⟩ | z⟩ := z
    · simp at zl
    · simp at zl
    · exact z

def rgC (i c : Int) (n : Nat) : List V := (List.range n).map fun m => V.int (i + (m : Nat) * c)
theorem rgC_length (i c : Int) (n : Nat) : (rgC i c n).length = n := by unfold rgC; rw [List.length_map, List.length_range]
theorem vals_rgC {i c : Int} {n : Nat} {acc : Array Value} (h : ItemsOf (fun m v => ∃ t, v = .int (i + m * c) t) acc n) : Vals (rgC i c n) acc.toList := by
  have e : acc.toList.length = n := by rw [Array.length_toList]; exact h.1
  unfold rgC
  rw [← e]
  refine vals_of_get acc.toList _ fun j u hj => ?_
  obtain ⟨t, rfl⟩ := h.2 j u (by rw [← hj, Array.getElem?_toList])
  exact ⟨t, rfl⟩
theorem rpA_steps {K : Fg} {S : Hp} (i c : Int) (n : Nat) : RpA K S (rgC i c n) (steps i c n) := by
  have : ∀ l : List Nat, RpA K S (l.map fun (m : Nat) => V.int (i + (m : Nat) * c)) (l.map fun (k : Nat) => .int (i + k * c)) := by
    intro l
    induction l with
    | nil => exact .nil
    | cons k r ih => exact .cons (.int _) ih
  exact this _
theorem pe_lrg3 {x y z : Expr} {ta : TA} {p p2 pos pos2 : Pos} (hc : X.calm = true) (hg : Gl X "list") (hm : X.mg "list" = none) (hgr : Gl X "range") (hmr : X.mg "range" = none) (ha : PA X [x, y, z] ta)
    (hs : starEach [x, y, z] X.env = (false, eval x X.env) :: starEach [y, z] X.env) (hpl : (backTo pos2 (starEach [y, z] X.env)).any (·.1) = false)
    (na : starEach [.Call (.Name "range" p2) [x, y, z] [] pos2] X.env = (false, eval (.Call (.Name "range" p2) [x, y, z] [] pos2) X.env) :: starEach [] X.env := by rfl) :
    PE X (.Call (.Name "list" p) [.Call (.Name "range" p2) [x, y, z] [] pos2] [] pos) (fun σ H Q => ta σ H fun vs H1 => ∃ (i j k : Int) (n : Nat), vs = [.int i, .int j, .int k] ∧ RgC i j k n ∧ n ≤ 2 ^ 24 ∧ ∀ q, H1 q = none → Q (.ref q) (upd H1 q (.lst (rgC i k n)))) := by
  refine ⟨fun pins s σ H Q I h => ?_⟩
  have ev : wpAny (model X.prog X.w) X.A (eval (.Call (.Name "range" p2) [x, y, z] [] pos2) X.env) (fun u s' => ∃ r i j k t t' t'' n H', u = .ref r ∧ IsRange s'.heap r i j k t t' t'' ∧ Inv X pins σ H' s' ∧ RgC i j k n ∧ n ≤ 2 ^ 24 ∧ ∀ q, H' q = none → Q (.ref q) (upd H' q (.lst (rgC i k n)))) X.xe s := by
    refine Call_ (ld_blt I hgr hmr boot_range (PyProof.Rows.callWith_type1 (thn (ha.run pos2 pins s σ H _ I h) fun us s1 ⟨vs, H1, I1, r1, q1⟩ => ?_) hs hpl))
    obtain ⟨i, j, k, n, e, rg, hn, q⟩ := q1
    subst e
    cases r1 with
    | cons r rr =>
      cases rr with
      | cons r' rr =>
        cases rr with
        | cons r'' rr =>
          cases rr
          obtain ⟨t, rfl⟩ := r
          obtain ⟨t', rfl⟩ := r'
          obtain ⟨t'', rfl⟩ := r''
          refine call_range_3 rg.1 ?_ (.inl (PyProof.noPylong_small rg.2.1))
          exact ⟨_, i, j, k, _, _, _, n, H1, rfl, IsRange.new .., I1.kept fun b o e => Heap.get?_push_of_some _ e, rg, hn, q⟩
  refine Call_ (ld_blt I hg hm boot_list (PyProof.Rows.callWith_type1 (args_cons (thn ev fun u s1 ⟨r, i, j, k, t, t', t'', n, H1, ex, hr, I1, rg, hn, q⟩ => args_nil ?_) na) na))
  subst ex
  refine call_list_range (n := n) (I1.ok.hd hc) hr rg.2.2.1 rg.2.2.2 hn fun h' tk acc c' hk e' hi => ?_
  refine ⟨.ref s1.heap.objs.size, upd H1 s1.heap.objs.size (.lst (rgC i k n)), I1.laid hk (Nat.le_refl _) (show ObjOk X.prog X.w _ _ _ (.lst (rgC i k n)) from ⟨?_, acc.toList, c', vals_rgC hi, ?_⟩), rfl, q _ (I1.hok.fresh (Nat.le_refl _))⟩
  · rw [rgC_length, sizeLine_eq]; omega
  · rw [Array.toArray_toList]; exact e'
theorem s_lrg3 {cc : Cc} {Φ : Ph} (F : Fit X cc G Φ) {x y z : Expr} {gl : En → RL} {p p2 pos2 : Pos} (hg : Gl X "list") (hgr : Gl X "range") (hx : plainX x = true) (hy : plainX y = true) (hz : plainX z = true) (hlen : ∀ e rs e1, gl e = .ok rs e1 → rs.length = 3) (ha : PA X [x, y, z] (tL G gl)) :
    PE X (.Call (.Name "list" p) [.Call (.Name "range" p2) [x, y, z] [] pos2] [] pos) (tE G (semLrg gl)) := by
  refine PEwk (pe_lrg3 F.calm hg (F.blt _ (by decide)) hgr (F.blt _ (by decide)) ha (star_cons hx) (star_flags (es := [y, z]) (by rw [List.all_cons, List.all_cons, hy, hz]; rfl))) fun σ H Q ⟨τ, hτ, S, e, rel, lnk, k⟩ => ⟨τ, hτ, S, e, rel, lnk, ?_⟩
  unfold semLrg at k
  cases hf : gl e with
  | st => rw [hf] at k; exact k
  | ex x e1 => rw [hf] at k; exact k
  | ok rs e1 =>
    rw [hf] at k
    intro vs S1 H1 g1 p1 f1
    have k : PR G S H τ e Q (match (ress e1 rs).bind rngD with
      | some ds => if ds.length ≤ L then .ok (.o ds) e1 else .st
      | none => .st) := k
    have hl3 := hlen e rs e1 hf
    split at k
    · rename_i ds hd
      split at k
      · rename_i hl
        obtain ⟨dd, h1, h2⟩ := Option.bind_eq_some_iff.mp hd
        have z := ress_ok g1.rel p1 h1
        unfold rngD at h2
        split at h2
        · obtain ⟨x, rfl, z1⟩ := pair1 z
          have := p1.length
          simp at this
          omega
        · obtain ⟨x, y, rfl, z1, z2⟩ := pair2 z
          have := p1.length
          simp at this
          omega
        · split at h2
          · rename_i i j c ok
            cases h2
            cases z with
            | cons z1 z =>
              obtain ⟨y, w, rfl, z2, z3⟩ := pair2 z
              obtain rfl := z1.int
              obtain rfl := z2.int
              obtain rfl := z3.int
              obtain ⟨ok1, ok2⟩ := Bool.and_eq_true_iff.mp ok
              have ok1 := cd_iff.mp ok1
              refine ⟨i, j, c, stepN i j c, rfl, ⟨ok1.1, ok1.2, ok2, rangeSize_toNat _ _ _⟩, ?_, fun q hq => ?_⟩
              · have h5 : stepN i j c ≤ L := by simpa [steps] using hl
                have h6 : L = 2 ^ 24 := by decide
                omega
              · obtain ⟨g2, r2, f2⟩ := g1.lst hq (rpA_steps (K := G.K) (S := S1) i c (stepN i j c))
                exact k _ S1 _ g2 r2 f2
          · cases h2
        · cases h2
      · exact k.elim
    · exact k.elim
end
end Vc
end
section
set_option Elab.async false
set_option linter.all false
namespace Vc
open PySem PySem.Spec PyProof.Rows L2
variable [XrC]
theorem wipeE_len : ∀ {T : List Nat} {e : En}, (wipeE e T).length = e.length
  | [], _ => rfl
  | i :: T, e => by unfold wipeE; rw [List.length_set, wipeE_len]
theorem wipeE_in : ∀ {T : List Nat} {e : En} {k : Nat} {s : Sl}, k ∈ T → (wipeE e T)[k]? = some s → s = .no
  | [], _, _, _, h, _ => by simp at h
  | i :: T, e, k, s, h, h' => by
    unfold wipeE at h'
    rcases get_set h' with ⟨_, z, _⟩ | ⟨ne, h'⟩
    · exact z
    · rcases List.mem_cons.mp h with z | z
      · exact absurd z.symm ne
      · exact wipeE_in z h'
theorem wipeE_out : ∀ {T : List Nat} {e : En} {k : Nat}, k ∉ T → (wipeE e T)[k]? = e[k]?
  | [], _, _, _ => rfl
  | i :: T, e, k, h => by
    obtain ⟨n1, n2⟩ := not_or.mp (fun z => h (List.mem_cons.mpr z))
    unfold wipeE
    rw [List.getElem?_set_ne (Ne.symm n1), wipeE_out n2]
theorem wipe_out : ∀ {T : List Nat} {σ : L2.St} {k : Nat}, k ∉ T → (wipe σ T)[k]? = σ[k]?
  | [], _, _, _ => rfl
  | i :: T, e, k, h => by
    obtain ⟨n1, n2⟩ := not_or.mp (fun z => h (List.mem_cons.mpr z))
    unfold wipe
    rw [List.getElem?_set_ne (Ne.symm n1), wipe_out n2]
theorem wipe_in : ∀ {T : List Nat} {σ : L2.St} {k : Nat}, k ∈ T → k < σ.length → (wipe σ T)[k]? = some none
  | [], _, _, h, _ => by simp at h
  | i :: T, σ, k, h, hl => by
    unfold wipe
    by_cases e : i = k
    · subst e; exact List.getElem?_set_self (by rw [wipe_length]; exact hl)
    · rw [List.getElem?_set_ne e]
      rcases List.mem_cons.mp h with z | z
      · exact absurd z.symm e
      · exact wipe_in z hl
/-- the same outside: the same forgotten -/
theorem wipe_eq {T : List Nat} {σ σ' : L2.St} (hl : σ'.length = σ.length) (h : ∀ k : Nat, k ∉ T → σ'[k]? = σ[k]?) : wipe σ' T = wipe σ T := by
  apply List.ext_getElem?
  intro k
  by_cases hk : k ∈ T
  · by_cases hlt : k < σ.length
    · rw [wipe_in hk (by omega), wipe_in hk hlt]
    · rw [List.getElem?_eq_none (by rw [wipe_length]; omega), List.getElem?_eq_none (by rw [wipe_length]; omega)]
  · rw [wipe_out hk, wipe_out hk, h k hk]
theorem backE_len : ∀ {T : List Nat} {e e1 : En}, (backE e e1 T).length = e.length
  | [], _, _ => rfl
  | i :: T, e, e1 => by unfold backE; rw [List.length_set, backE_len]
theorem backE_out : ∀ {T : List Nat} {e e1 : En} {k : Nat}, k ∉ T → (backE e e1 T)[k]? = e[k]?
  | [], _, _, _, _ => rfl
  | i :: T, e, e1, k, h => by
    obtain ⟨n1, n2⟩ := not_or.mp (fun z => h (List.mem_cons.mpr z))
    unfold backE
    rw [List.getElem?_set_ne (Ne.symm n1), backE_out n2]
theorem backE_in : ∀ {T : List Nat} {e e1 : En} {k : Nat}, k ∈ T → e.length = e1.length → (backE e e1 T)[k]? = e1[k]?
  | [], _, _, _, h, _ => by simp at h
  | i :: T, e, e1, k, h, hl => by
    unfold backE
    by_cases z : i = k
    · subst z
      by_cases hlt : i < e.length
      · rw [List.getElem?_set_self (by rw [backE_len]; exact hlt)]
        rw [List.getElem?_eq_getElem (by omega)]
        rfl
      · rw [List.getElem?_eq_none (by rw [List.length_set, backE_len]; omega), List.getElem?_eq_none (by omega)]
    · rw [List.getElem?_set_ne z]
      rcases List.mem_cons.mp h with w | w
      · exact absurd w.symm z
      · exact backE_in w hl
section
variable {K : Fg} {S0 S S1 H0 H H1 : Hp} {σ0 σ σ1 σ2 σ3 : L2.St} {e0 e e1 : En}
/-- slots forgotten -/
theorem Grow.forget {σ' : L2.St} {e' : En} (g : Grow K S0 H0 σ0 e0 S H σ e) (hl : e'.length = σ'.length) (h : ∀ (k : Nat) (s : Sl), e'[k]? = some s → s = .no ∨ (e[k]? = some s ∧ σ'[k]? = σ[k]?)) : Grow K S0 H0 σ0 e0 S H σ' e' ∧ ∀ a, OwnAt σ' e' a → OwnAt σ e a := by
  have q := g.rel
  have own' : ∀ a, OwnAt σ' e' a → OwnAt σ e a := fun a ⟨k, ds, h1, h2⟩ => by
    rcases h k _ h1 with z | ⟨z1, z2⟩
    · cases z
    · exact ⟨k, ds, z1, z2 ▸ h2⟩
  refine ⟨⟨⟨q.sub, hl, fun k d hk => ?_, fun k ds hk => ?_, fun j k a ds es hj hk s1 s2 => ?_, fun k ds hk => ?_, fun k x hk => by
    rcases h k _ hk with z | ⟨z1, z2⟩
    · cases z
    · rw [z2]; exact q.exc k x z1⟩, g.sub, g.keep, g.free, fun a w => g.own a (own' a w)⟩, own'⟩
  · rcases h k _ hk with z | ⟨z1, z2⟩
    · cases z
    · rw [z2]; exact q.val k d z1
  · rcases h k _ hk with z | ⟨z1, z2⟩
    · cases z
    · rw [z2]; exact q.own k ds z1
  · rcases h j _ hj with z | ⟨z1, z2⟩
    · cases z
    · rcases h k _ hk with z | ⟨w1, w2⟩
      · cases z
      · exact q.dis j k a _ _ z1 w1 (z2 ▸ s1) (w2 ▸ s2)
  · rcases h k _ hk with z | ⟨z1, z2⟩
    · cases z
    · rw [z2]; exact q.fgn k ds z1
theorem Grow.wiped (g : Grow K S0 H0 σ0 e0 S H σ e) (own T : List Nat) (ho : ∀ k ∈ own, k ∈ T) : Grow K S0 H0 σ0 e0 S H (wipe σ own) (wipeE e T) ∧ ∀ a, OwnAt (wipe σ own) (wipeE e T) a → OwnAt σ e a := by
  refine g.forget (by rw [wipeE_len, wipe_length]; exact g.rel.len) fun k s hk => ?_
  by_cases hT : k ∈ T
  · exact .inl (wipeE_in hT hk)
  · exact .inr ⟨by rw [wipeE_out hT] at hk; exact hk, wipe_out fun z => hT (ho k z)⟩
/-- an object beside the slots is written -/
theorem Grow.putD (g : Grow K S0 H0 σ0 e0 S H σ e) {p : Addr} {o : HO} (h1 : S p = none) (h2 : ¬ OwnAt σ e p) (h3 : H0 p = none) (h4 : ∀ u, H p = some u → ∃ ys, u = .lst ys) : Grow K S0 H0 σ0 e0 S (upd H p o) σ e := by
  have q := g.rel
  refine ⟨⟨fun b u hb => ?_, q.len, q.val, fun k ds hk => ?_, q.dis, q.fgn, fun k x hk => by
    obtain ⟨a, e1, e2⟩ := q.exc k x hk
    exact ⟨a, e1, e2.mono Sub.rfl' fun b u e no => by rw [upd_ne (fun z => by subst z; obtain ⟨ys, z⟩ := h4 _ e; exact no _ z)]; exact e⟩⟩, g.sub, fun a u h n => ?_, g.free, g.own⟩
  · rw [upd_ne (fun z => by subst z; rw [h1] at hb; cases hb)]; exact q.sub b u hb
  · obtain ⟨a, xs, e1, e2, e3⟩ := q.own k ds hk
    exact ⟨a, xs, e1, by rw [upd_ne (fun z => h2 (by subst z; exact ⟨k, ds, hk, e1⟩))]; exact e2, e3⟩
  · rw [upd_ne (fun z => by subst z; rw [h3] at h; cases h)]; exact g.keep a u h n
/-- the slots at T come back as they were -/
theorem unwipe {T : List Nat} (q : Rel K S1 H1 σ e1) (gB : Grow K S1 H1 σ1 (wipeE e1 T) S H σ2 (wipeE e T)) (h1 : ∀ k : Nat, k ∉ T → σ1[k]? = σ[k]?) (h2 : ∀ k : Nat, k ∉ T → σ3[k]? = σ2[k]?) (h3 : ∀ k : Nat, k ∈ T → σ3[k]? = σ[k]?) (hl : σ3.length = σ.length) (he : e.length = e1.length) :
    Grow K S1 H1 σ e1 S H σ3 (backE e e1 T) ∧ ∀ a, H1 a = none → ¬ OwnAt σ2 (wipeE e T) a → ¬ OwnAt σ3 (backE e e1 T) a := by
  -- a slot's own list at T isn't seen by what goes on
  have hid : ∀ {k : Nat} {a : Addr} {ds : List D}, k ∈ T → e1[k]? = some (Sl.o ds) → σ[k]? = some (some (V.ref a)) → ¬ OwnAt σ1 (wipeE e1 T) a := by
    intro k a ds hk h4 h5 ⟨j, es, h6, h7⟩
    by_cases hj : j ∈ T
    · have := wipeE_in hj h6; cases this
    · rw [wipeE_out hj] at h6
      rw [h1 j hj] at h7
      have := q.dis k j a _ _ h4 h6 h5 h7
      subst this
      exact hj hk
  have ownT : ∀ a, OwnAt σ3 (backE e e1 T) a → (∃ (k : Nat) (ds : List D), k ∈ T ∧ e1[k]? = some (Sl.o ds) ∧ σ[k]? = some (some (V.ref a))) ∨ OwnAt σ2 (wipeE e T) a := by
    intro a ⟨k, ds, h4, h5⟩
    by_cases hk : k ∈ T
    · rw [backE_in hk he] at h4
      rw [h3 k hk] at h5
      exact .inl ⟨k, ds, hk, h4, h5⟩
    · rw [backE_out hk] at h4
      rw [h2 k hk] at h5
      exact .inr ⟨k, ds, by rw [wipeE_out hk]; exact h4, h5⟩
  have notB : ∀ {a : Addr}, ¬ OwnAt σ e1 a → ¬ OwnAt σ1 (wipeE e1 T) a := fun {a} n ⟨j, es, h6, h7⟩ => by
    by_cases hj : j ∈ T
    · have := wipeE_in hj h6; cases this
    · rw [wipeE_out hj] at h6
      rw [h1 j hj] at h7
      exact n ⟨j, es, h6, h7⟩
  have rB := gB.rel
  refine ⟨⟨⟨rB.sub, by rw [backE_len, he, hl]; exact q.len, fun k d hk => ?_, fun k ds hk => ?_, fun j k a ds es hj hk s1 s2 => ?_, fun k ds hk => ?_, fun k x hk => by
    by_cases hT : k ∈ T
    · rw [backE_in hT he] at hk
      obtain ⟨a, e2, e3⟩ := q.exc k x hk
      exact ⟨a, by rw [h3 k hT]; exact e2, e3.mono gB.sub fun b o e no => gB.keep _ _ e (notB fun w => by
        obtain ⟨ys, z⟩ := q.own_at w
        rw [e] at z; cases z
        exact no _ rfl)⟩
    · rw [backE_out hT] at hk
      rw [h2 k hT]
      exact rB.exc k x (by rw [wipeE_out hT]; exact hk)⟩, gB.sub, fun a o h n => gB.keep a o h (notB n), fun a o h n s => gB.free a o h (notB n) s, fun a w => ?_⟩, fun a ha n w => ?_⟩
  · by_cases hT : k ∈ T
    · rw [backE_in hT he] at hk
      obtain ⟨x, e2, e3⟩ := q.val k d hk
      exact ⟨x, by rw [h3 k hT]; exact e2, e3.mono gB.sub⟩
    · rw [backE_out hT] at hk
      rw [h2 k hT]
      exact rB.val k d (by rw [wipeE_out hT]; exact hk)
  · by_cases hT : k ∈ T
    · rw [backE_in hT he] at hk
      obtain ⟨a, xs, e2, e3, e4, e5⟩ := q.own k ds hk
      have n := hid hT hk e2
      exact ⟨a, xs, by rw [h3 k hT]; exact e2, gB.keep _ _ e3 n, gB.free _ _ e3 n e4, e5.mono gB.sub⟩
    · rw [backE_out hT] at hk
      rw [h2 k hT]
      exact rB.own k ds (by rw [wipeE_out hT]; exact hk)
  · -- which of both
    have cross : ∀ {j k : Nat} {ds es : List D}, j ∈ T → k ∉ T → e1[j]? = some (Sl.o ds) → σ[j]? = some (some (V.ref a)) → e[k]? = some (Sl.o es) → σ2[k]? = some (some (V.ref a)) → False := by
      intro j k ds es hj hk a1 a2 a3 a4
      have w : OwnAt σ2 (wipeE e T) a := ⟨k, es, by rw [wipeE_out hk]; exact a3, a4⟩
      rcases gB.own a w with z | z
      · exact hid hj a1 a2 z
      · obtain ⟨b, xs, b1, b2, _⟩ := q.own j ds a1
        rw [a2] at b1; cases b1
        rw [b2] at z; cases z
    by_cases hjT : j ∈ T
    · rw [backE_in hjT he] at hj
      rw [h3 j hjT] at s1
      by_cases hkT : k ∈ T
      · rw [backE_in hkT he] at hk
        rw [h3 k hkT] at s2
        exact q.dis j k a _ _ hj hk s1 s2
      · rw [backE_out hkT] at hk
        rw [h2 k hkT] at s2
        exact (cross hjT hkT hj s1 hk s2).elim
    · rw [backE_out hjT] at hj
      rw [h2 j hjT] at s1
      by_cases hkT : k ∈ T
      · rw [backE_in hkT he] at hk
        rw [h3 k hkT] at s2
        exact (cross hkT hjT hk s2 hj s1).elim
      · rw [backE_out hkT] at hk
        rw [h2 k hkT] at s2
        exact rB.dis j k a _ _ (by rw [wipeE_out hjT]; exact hj) (by rw [wipeE_out hkT]; exact hk) s1 s2
  · by_cases hT : k ∈ T
    · rw [backE_in hT he] at hk
      obtain ⟨a, xs, e2, e3, e4⟩ := q.fgn k ds hk
      exact ⟨a, xs, by rw [h3 k hT]; exact e2, gB.sub.sqL e3, e4.mono gB.sub⟩
    · rw [backE_out hT] at hk
      rw [h2 k hT]
      exact rB.fgn k ds (by rw [wipeE_out hT]; exact hk)
  · rcases ownT a w with ⟨k, ds, _, z1, z2⟩ | z
    · exact .inl ⟨k, ds, z1, z2⟩
    · rcases gB.own a z with ⟨k, ds, z1, z2⟩ | z
      · by_cases hT : k ∈ T
        · have := wipeE_in hT z1; cases this
        · rw [wipeE_out hT] at z1
          rw [h1 k hT] at z2
          exact .inl ⟨k, ds, z1, z2⟩
      · exact .inr z
  · rcases ownT a w with ⟨k, ds, _, z1, z2⟩ | z
    · obtain ⟨b, xs, b1, b2, _⟩ := q.own k ds z1
      rw [z2] at b1; cases b1
      rw [ha] at b2; cases b2
    · exact n z
end
theorem wipG_setN : ∀ {g : List (Nat × Nat × Str × Str)} {τ : L2.St} {i : Nat}, wipG g (τ.set i none) = (wipG g τ).set i none
  | [], _, _ => rfl
  | q :: r, _, i => by
    rw [wipG, wipG, wipG_setN]
    by_cases h : i = q.1
    · rw [h]
    · rw [set_comm' h]
theorem base_wipe {G : Gx} : ∀ {T : List Nat} {τ : L2.St}, Vc.base G (wipe τ T) = wipe (Vc.base G τ) T
  | [], _ => rfl
  | i :: r, τ => by
    show wipG G.gh ((wipe τ r).set i none) = (wipe (wipG G.gh τ) r).set i none
    rw [wipG_setN]
    exact congrArg (·.set i none) (base_wipe (T := r) (τ := τ))
theorem wipe_some {T : List Nat} {τ : L2.St} {k : Nat} {v : V} (h : (wipe τ T)[k]? = some (some v)) : τ[k]? = some (some v) ∧ k ∉ T := by
  induction T with
  | nil => exact ⟨h, by simp⟩
  | cons i r ih =>
    have h : ((wipe τ r).set i none)[k]? = some (some v) := h
    by_cases e : i = k
    · subst e
      rw [List.getElem?_set] at h
      simp at h
    · rw [List.getElem?_set_ne e] at h
      obtain ⟨a, b⟩ := ih h
      exact ⟨a, fun w => by rcases List.mem_cons.mp w with w | w; exact e w.symm; exact b w⟩
theorem Lk.tgt {G : Gx} {S : Hp} {τ τ2 : L2.St} {own is : List Nat} (h : Lk G τ S) (hob : ∀ k ∈ own, k ∉ G.gh.map (·.2.1)) (hin : ∀ k ∈ is, k ∉ G.gh.map (·.1) ∧ k ∉ G.gh.map (·.2.1)) (out : ∀ j, j ∉ is → τ2[j]? = (wipe τ own)[j]?) : Lk G τ2 S := fun q hq v hv => by
  have m1 : q.1 ∈ G.gh.map (·.1) := List.mem_map_of_mem hq
  have m2 : q.2.1 ∈ G.gh.map (·.2.1) := List.mem_map.mpr ⟨q, hq, rfl⟩
  rw [out _ fun w => (hin _ w).1 m1] at hv
  obtain ⟨p, C, dx, fs, q1, q2, q3⟩ := h q hq v (wipe_some hv).1
  refine ⟨p, C, dx, fs, q1, ?_, q3⟩
  rw [out _ fun w => (hin _ w).2 m2, wipe_out fun w => hob _ w m2]
  exact q2
/-- no exception -/
def Gx.nox (G : Gx) : Gx := { G with W := fun _ _ _ _ => False }
noncomputable def semLc (tg : Tg) (own : List Nat) (fI : En → RI) (ft : En → RT) (fg : En → R) (e : En) : R := (fI e).bd fun ds lk e1 => match lcGo tg (own ++ lk.toList) ft fg ds e1 with
    | .st => .st
    | .ok ys e2 => if ys.length ≤ L then .ok (.o ys) (backE e2 e1 (own ++ lk.toList)) else .st
section
variable {G : Gx} {tg : Tg} {own : List Nat} {fI : En → RI} {ft : En → RT} {fg : En → R}
theorem lc_read (hown : ∀ k ∈ tgIx tg, k ∈ own) (hob : ∀ k ∈ own, k ∉ G.gh.map (·.2.1)) (htn : ∀ k ∈ tgIx tg, k ∉ G.gh.map (·.1) ∧ k ∉ G.gh.map (·.2.1)) (σ : L2.St) (H : Hp) (Q : VK) (q : tE G (semLc tg own fI ft fg) σ H Q) : tLc (tI G fI) (tgG G.K tg) (tT G.nox ft) (tE G.nox fg) own σ H Q := by
  obtain ⟨τ, hτ, S, e, rel, lnk, k⟩ := q
  refine ⟨τ, hτ, S, e, rel, lnk, ?_⟩
  unfold semLc at k
  cases hI : fI e with
  | st => rw [hI] at k; exact k
  | ex x e1 => rw [hI] at k; exact k
  | ok ds lk e1 =>
    rw [hI] at k
    have k : PR G S H τ e Q (match lcGo tg (own ++ lk.toList) ft fg ds e1 with
      | .st => .st
      | .ok ys e2 => if ys.length ≤ L then .ok (.o ys) (backE e2 e1 (own ++ lk.toList)) else .st) := k
    intro S1 H1 J lka g1 hlk wk D hD
    cases hgo : lcGo tg (own ++ lk.toList) ft fg ds e1 with
    | st => rw [hgo] at k; exact k.elim
    | ok ys eEnd =>
      rw [hgo] at k
      have k : PR G S H τ e Q (if ys.length ≤ L then .ok (.o ys) (backE eEnd e1 (own ++ lk.toList)) else .st) := k
      by_cases hL : ys.length ≤ L
      · rw [if_pos hL] at k
        generalize hT : own ++ lk.toList = T at k hgo
        have hoT : ∀ j ∈ own, j ∈ T := fun j hj => by rw [← hT]; exact List.mem_append_left _ hj
        have rel1 := g1.rel
        -- the list that is lent isn't seen
        have lkN : ∀ (a : Addr) (xs : List V), lka = some (a, xs) → H1 a = some (.lst xs) ∧ ¬ OwnAt (wipe τ own) (wipeE e1 T) a := by
          intro a xs hl
          cases lk with
          | none => have : lka = none := hlk; rw [hl] at this; cases this
          | some i =>
            obtain ⟨b, zs, ds', h1, h2, h3, h4⟩ := hlk
            rw [hl] at h4; cases h4
            refine ⟨h3, fun ⟨j, es, h5, h6⟩ => ?_⟩
            by_cases hj : j ∈ T
            · have := wipeE_in hj h5; cases this
            · rw [wipeE_out hj] at h5
              rw [wipe_out fun z => hj (hoT j z)] at h6
              have := rel1.dis i j a _ _ h1 h5 h2 h6
              subst this
              exact hj (by rw [← hT]; exact List.mem_append_right _ (by simp))
        obtain ⟨gW, _⟩ := rel1.grow.wiped own T hoT
        have bas := gW.rel
        -- the state at a turn
        let St' : Nat → Hp → Prop := fun i H => i ≤ ds.length ∧ ∃ S e acc vs ys', Grow G.K S1 H1 (wipe τ own) (wipeE e1 T) S H (wipe τ own) (wipeE e T) ∧ H D = some (.lst vs) ∧ S D = none ∧ ¬ OwnAt (wipe τ own) (wipeE e T) D ∧ RpA G.K S vs acc ∧
          lcGo tg T ft fg (ds.drop i) e = .ok ys' eEnd ∧ acc ++ ys' = ys
        refine ⟨fun i m H => m = ds.length - i ∧ St' i H, ⟨ds.length, by simp, Nat.zero_le _, S1, e1, [], [], ys, ?_, upd_same, rel1.sub.non hD, bas.not_own hD, .nil, by simpa using hgo, rfl⟩, ?_⟩
        · exact bas.grow.laid hD
        · rintro i m H2 ⟨rfl, hi, S2, e2, acc, vs, ys', gB, hDl, hDs, hDo, hacc, hrest, hys⟩
          have lkH2 : LkH lka H2 := fun a xs hl => gB.keep _ _ (lkN a xs hl).1 (lkN a xs hl).2
          have sub2 : Sub S1 H2 := gB.sub.tr gB.rel.sub
          by_cases hlt : i < ds.length
          · right
            refine ⟨wk.go i H2 sub2 lkH2 hlt, St' (i + 1), fun H' z => ⟨ds.length - (i + 1), by omega, rfl, z⟩, fun x H3 hy => ?_⟩
            have hd : ds[i]? = some ds[i] := List.getElem?_eq_getElem hlt
            have hdrop : ds.drop i = ds[i] :: ds.drop (i + 1) := List.drop_eq_getElem_cons hlt
            obtain ⟨S3, gy, py⟩ := wk.yld i H2 x H3 ds[i] _ _ S2 gB.sub lkH2 gB.rel hy hd
            rw [hdrop] at hrest
            simp only [lcGo] at hrest
            cases htg : asgT tg ds[i] (wipeE e2 T) with
            | none => rw [htg] at hrest; cases hrest
            | some e3 =>
              rw [htg] at hrest
              simp only at hrest
              obtain ⟨τ2, tq, gt, tl, tel, tout⟩ := tg_ok (Vc.base G) (fun k hk τ x => base_set (htn k hk).1) gy.rel.grow py htg
              have hw : wipe τ2 own = wipe τ own := wipe_eq (tl.trans (wipe_length τ own)) fun j hj => (tout j fun z => hj (hown j z)).1.trans (wipe_out hj)
              have d3 : H3 D = some (.lst vs) := gy.keep _ _ hDl hDo
              have s3 : S3 D = none := gy.free _ _ hDl hDo hDs
              have o3 : ¬ OwnAt τ2 e3 D := gt.notOwn d3 (gy.notOwn hDl hDo)
              have gAll := (gB.trans gy).trans gt
              have lk2 : Lk G τ2 S3 := ((lnk.mono g1.sub).mono (gB.sub.tr gy.sub)).tgt hob htn fun j hj => (tout j hj).1
              rw [← hτ, ← base_wipe]
              refine tq _ ⟨by rw [← base_wipe, hw], τ2, rfl, S3, e3, gt.rel, lk2, ?_⟩
              cases hft : ft e3 with
              | st => rw [hft] at hrest; cases hrest
              | ex x e4 => rw [hft] at hrest; cases hrest
              | ok b e4 =>
                rw [hft] at hrest
                intro S4 H4 g4
                have d4 := g4.keep _ _ d3 o3
                have s4 := g4.free _ _ d3 o3 s3
                have o4 := g4.notOwn d3 o3
                cases b with
                | true =>
                  rw [if_pos rfl]
                  refine ⟨τ2, rfl, S4, e4, g4.rel, lk2.mono g4.sub, ?_⟩
                  simp only at hrest
                  cases hfg : fg e4 with
                  | st => rw [hfg] at hrest; cases hrest
                  | ex x e5 => rw [hfg] at hrest; cases hrest
                  | ok r e5 =>
                    rw [hfg] at hrest
                    simp only at hrest
                    cases htv : toV e5 r with
                    | none => rw [htv] at hrest; cases hrest
                    | some p =>
                      obtain ⟨y', e6⟩ := p
                      rw [htv] at hrest
                      simp only at hrest
                      cases hr2 : lcGo tg T ft fg (ds.drop (i + 1)) e6 with
                      | st => rw [hr2] at hrest; cases hrest
                      | ok ys2 e7 =>
                        rw [hr2] at hrest
                        cases hrest
                        intro y S5 H5 g5 p5 f5
                        obtain ⟨S6, g6, s56, pv, _⟩ := toV_ok g5 p5 f5 htv
                        have d5 := g6.keep _ _ d4 o4
                        have s6 := g6.free _ _ d4 o4 s4
                        have o6 := g6.notOwn d4 o4
                        refine ⟨vs, d5, ?_, ?_⟩
                        · have hL2 : ys.length ≤ sizeLine := hL
                          have : ys.length = acc.length + (ys2.length + 1) := by rw [← hys]; simp
                          rw [hacc.length]
                          omega
                        · obtain ⟨gw, ow⟩ := ((((gAll.trans g4).trans g6).putD (o := .lst (vs ++ [y])) s6 o6 hD fun u z => ⟨vs, by rw [d5] at z; exact (Option.some.inj z).symm⟩)).wiped own T hoT
                          rw [hw] at gw ow
                          refine ⟨hlt, S6, e6, acc ++ [y'], vs ++ [y], ys2, gw, upd_same, s6, fun w => o6 (ow D w), (hacc.mono ((gy.sub.tr g4.sub).tr g6.sub)).append (.cons pv .nil), hr2, by rw [← hys]; simp⟩
                | false =>
                  rw [if_neg (by decide)]
                  simp only at hrest
                  obtain ⟨gw, ow⟩ := (gAll.trans g4).wiped own T hoT
                  rw [hw] at gw ow
                  exact ⟨hlt, S4, e4, acc, vs, ys', gw, d4, s4, fun w => o4 (ow D w), hacc.mono (gy.sub.tr g4.sub), hrest, hys⟩
          · have hi' : i = ds.length := by omega
            subst hi'
            left
            refine ⟨wk.stop H2 sub2 lkH2, ?_⟩
            rw [List.drop_length] at hrest
            simp only [lcGo] at hrest
            cases hrest
            rw [List.append_nil] at hys
            subst hys
            have he : List.length eEnd = e1.length := by
              have := gB.rel.len
              rw [wipeE_len, wipe_length] at this
              rw [this, rel1.len]
            obtain ⟨gF, nF⟩ := unwipe (σ3 := τ) rel1 gB (fun j hj => wipe_out fun z => hj (hoT j z)) (fun j hj => (wipe_out fun z => hj (hoT j z)).symm) (fun j _ => rfl) rfl he
            exact k (.ref D) S2 H2 (g1.trans gF) ⟨D, vs, rfl, hDl, hDs, hacc, nF D hD hDo⟩ (fun a ha => by cases ha; exact g1.new hD)
      · rw [if_neg hL] at k; exact k.elim
end
section
variable {X : Cx} {G : Gx} {Φ : Ph} {c : Cc} {tg : Tg} {own : List Nat} {fI : En → RI} {ft : En → RT} {fg : En → R}
/-- the context of a comprehension's block -/
def rlb (scope sc : Scope) : Scope := { scope with names := scope.names.map fun (n, k) => if (k == .free && sc.kind == .function && sc.names.lookup n == some .cell) then (n, .cell) else (n, k) }
def Cc.blk (c : Cc) (scope : Scope) : Cc := { c with sc := rlb scope c.sc, os := scope, top := false }
theorem rlb_local {scope sc : Scope} {x : Str} (h : scope.names.lookup x = some .local) : (rlb scope sc).names.lookup x = some .local := by
  unfold rlb
  simp only
  generalize scope.names = l at h
  induction l with
  | nil => simp at h
  | cons p l ih =>
    obtain ⟨n, k⟩ := p
    simp only [List.lookup] at h
    rw [List.map_cons]
    cases hx : x == n with
    | true =>
      rw [hx] at h
      simp only [Option.some.injEq] at h
      subst h
      simp [List.lookup, hx]
    | false =>
      rw [hx] at h
      simp only at h
      have ih := ih h
      split <;> simp only [List.lookup, hx] <;> exact ih
theorem Fit.blk (F : Fit X c G Φ) (s : Shared) (H : Hp) (scope : Scope) (C : Addr) (cl : List (Str × Addr)) (fp : List Addr) : Fit (X.blk s H scope (compEnvC scope cl C X.env) fp) (c.blk scope) G.nox Φ :=
  ⟨by show relabel scope X.env = rlb scope c.sc
      unfold relabel rlb Env.kindOf
      rw [F.sc], F.N, F.nd, F.K, F.calm, takes0, F.un, F.gd, F.blt, F.con, fun x f h => F.fn x f h, fun x _ h => by
    rcases h with h | h
    · exact .inr (rlb_local h)
    · have h : scope.names.lookup x = some .cell := h
      exact .inl (by show (scope.names.lookup x == some .cell) = true; rw [h]; rfl), PassesOwn.never, F.xs, F.xr, F.rm, (fun z => by cases z), F.xc, F.gm, F.gh, F.gp, F.nw, F.fl, F.ci, F.fq⟩
def ownN (c : Cc) (own : List Nat) : List (Str × Nat) := own.filterMap fun i => (c.N[i]?).map fun x => (x, i)
theorem s_lc (F : Fit X c G Φ) {tge iter elt : Expr} {ifs : List Expr} {scope : Scope} {pos : Pos} (hown : ∀ k ∈ tgIx tg, k ∈ own) (hop : ∀ k ∈ own, k ∉ c.pr) (hno : (ownN c own).map (·.2) = own) (hb : blkC c.N c.sc scope (ownN c own) = true) (hp : plainX iter = true)
    (hi : PI X tge iter (tI G fI)) (htg : chkTg (c.blk scope) tg tge = true)
    (ht : ∀ (s : Shared) (H : Hp) (C : Addr) (cl : List (Str × Addr)) (fp : List Addr), PTs (X.blk s H scope (compEnvC scope cl C X.env) fp) ifs (tT G.nox ft))
    (he : ∀ (s : Shared) (H : Hp) (C : Addr) (cl : List (Str × Addr)) (fp : List Addr), PE (X.blk s H scope (compEnvC scope cl C X.env) fp) elt (tE G.nox fg)) :
    PE X (.ListComp elt [⟨tge, iter, ifs, 0⟩] scope pos) (tE G (semLc tg own fI ft fg)) := by
  have ok : BlkOk X.N X.env.scope scope (ownN c own) := by rw [F.N, F.sc]; exact blkOk_by hb
  refine PEwk (pe_lc (g := tgG X.K tg) F.calm (by rw [F.N]; exact F.nd) hi ok (fun s H C cl fp => (s_tg (F.blk s H scope C cl fp) htg).1) ht he fun x => plain_set hp) fun σ H Q q => ?_
  rw [hno, F.K]
  exact lc_read hown (fun k hk => (F.out (hop k hk)).2) (fun k hk => F.out (hop k (hown k hk))) σ H Q q
/-- y = [..] in one row -/
theorem s_setLc (F : Fit X c G Φ) {tge iter elt : Expr} {ifs : List Expr} {scope : Scope} {pos spos py : Pos} {y : Str} {i : Nat} (hown : ∀ k ∈ tgIx tg, k ∈ own) (hop : ∀ k ∈ own, k ∉ c.pr) (hno : (ownN c own).map (·.2) = own) (hb : blkC c.N c.sc scope (ownN c own) = true) (hp : plainX iter = true)
    (hy : c.N[i]? = some y) (hyl : c.sc.names.lookup y = some .local) (hk : c.sc.kind = .function) (hln : (py.line == pos.line) = true) (hns : (scope.names.any fun (n, k) => n == y && (k == .local || k == .cell)) = false)
    (hi : PI X tge iter (tI G fI)) (htg : chkTg (c.blk scope) tg tge = true)
    (ht : ∀ (s : Shared) (H : Hp) (C : Addr) (cl : List (Str × Addr)) (fp : List Addr), PTs (X.blk s H scope (compEnvC scope cl C X.env) fp) ifs (tT G.nox ft))
    (he : ∀ (s : Shared) (H : Hp) (C : Addr) (cl : List (Str × Addr)) (fp : List Addr), PE (X.blk s H scope (compEnvC scope cl C X.env) fp) elt (tE G.nox fg)) :
    PS X (.Assign [.Name y py] (.ListComp elt [⟨tge, iter, ifs, 0⟩] scope pos) spos) (tAsg (tE G (semLc tg own fI ft fg)) (gName i)) := by
  have ok : BlkOk X.N X.env.scope scope (ownN c own) := by rw [F.N, F.sc]; exact blkOk_by hb
  have r := ps_setLc (X := X) (g := tgG X.K tg) (i := i) (y := y) (py := py) (spos := spos) (pos := pos) F.calm (by rw [F.N]; exact F.nd) (by rw [F.N]; exact hy) (by rw [F.sc]; exact hyl) (sw_true (by rw [F.sc]; exact hk) (by rw [F.sc]; exact hyl) hln hns) hi ok (fun s H C cl fp => (s_tg (F.blk s H scope C cl fp) htg).1) ht he fun x => plain_set hp
  refine ⟨fun pins s σ H D I q => r.run pins s σ H D I ?_⟩
  have q : tE G (semLc tg own fI ft fg) σ H (fun x H1 => gName i x σ H1 D.nx) := q
  show tLc _ _ _ _ _ σ H (fun x H1 => gName i x σ H1 D.nx)
  rw [hno, F.K]
  exact lc_read hown (fun k hk => (F.out (hop k hk)).2) (fun k hk => F.out (hop k (hown k hk))) σ H _ q
end
end Vc
end
section
set_option Elab.async false
set_option linter.all false
namespace Vc
open PySem PySem.Spec PyProof.Rows L2
variable [XrC]
theorem wipeE_twice {T U : List Nat} (h : ∀ k ∈ U, k ∈ T) (e : En) : wipeE (wipeE e U) T = wipeE e T := by
  apply List.ext_getElem?
  intro k
  by_cases hk : k ∈ T
  · by_cases hl : k < e.length
    · have hx := List.getElem?_eq_getElem (l := wipeE (wipeE e U) T) (i := k) (by rw [wipeE_len, wipeE_len]; exact hl)
      have hy := List.getElem?_eq_getElem (l := wipeE e T) (i := k) (by rw [wipeE_len]; exact hl)
      rw [hx, hy, wipeE_in hk hx, wipeE_in hk hy]
    · rw [List.getElem?_eq_none (by rw [wipeE_len, wipeE_len]; omega), List.getElem?_eq_none (by rw [wipeE_len]; omega)]
  · rw [wipeE_out hk, wipeE_out hk, wipeE_out fun z => hk (h k z)]
theorem wipe_twice {T U : List Nat} (h : ∀ k ∈ U, k ∈ T) (σ : L2.St) : wipe (wipe σ U) T = wipe σ T :=
  wipe_eq (wipe_length σ U) fun k hk => wipe_out fun z => hk (h k z)
noncomputable def semLc2 (tg : Tg) (own : List Nat) (fI fI1 : En → RI) (tg1 : Tg) (own1 : List Nat) (fg : En → R) (e : En) : R := (fI e).bd fun ds lk e1 => match lk with
    | some _ => .st
    | none => match lc2Go tg own fI1 tg1 own1 fg ds e1 with
      | .st => .st
      | .ok ys e2 => if ys.length ≤ L then .ok (.o ys) (backE e2 e1 own) else .st
section
variable {G : Gx} {tg tg1 : Tg} {own own1 : List Nat} {fI fI1 : En → RI} {fg : En → R}
theorem lc2_read (hown : ∀ k ∈ tgIx tg, k ∈ own) (hown1 : ∀ k ∈ tgIx tg1, k ∈ own1) (h1o : ∀ k ∈ own1, k ∈ own) (hob : ∀ k ∈ own, k ∉ G.gh.map (·.2.1)) (htn : ∀ k ∈ own, k ∉ G.gh.map (·.1) ∧ k ∉ G.gh.map (·.2.1)) (σ : L2.St) (H : Hp) (Q : VK) (q : tE G (semLc2 tg own fI fI1 tg1 own1 fg) σ H Q) :
    tLc2 (tI G fI) (tgG G.K tg) (tT G.nox fun e => .ok true e) (tI G.nox fI1) (tgG G.K tg1) (tT G.nox fun e => .ok true e) (tE G.nox fg) own own1 σ H Q := by
  obtain ⟨τ, hτ, S, e, rel, lnk, k⟩ := q
  refine ⟨τ, hτ, S, e, rel, lnk, ?_⟩
  unfold semLc2 at k
  cases hI : fI e with
  | st => rw [hI] at k; exact k
  | ex x e1 => rw [hI] at k; exact k
  | ok ds lk e1 =>
    rw [hI] at k
    cases lk with
    | some _ => exact k.elim
    | none =>
    have k : PR G S H τ e Q (match lc2Go tg own fI1 tg1 own1 fg ds e1 with
      | .st => .st
      | .ok ys e2 => if ys.length ≤ L then .ok (.o ys) (backE e2 e1 own) else .st) := k
    intro S1 H1 J lka g1 hlk wk D hD
    have hlk : lka = none := hlk
    subst hlk
    cases hgo : lc2Go tg own fI1 tg1 own1 fg ds e1 with
    | st => rw [hgo] at k; exact k.elim
    | ok ys eEnd =>
      rw [hgo] at k
      have k : PR G S H τ e Q (if ys.length ≤ L then .ok (.o ys) (backE eEnd e1 own) else .st) := k
      by_cases hL : ys.length ≤ L
      · rw [if_pos hL] at k
        have rel1 := g1.rel
        obtain ⟨gW, _⟩ := rel1.grow.wiped own own fun _ h => h
        have bas := gW.rel
        let St' : Nat → Hp → Prop := fun i H => i ≤ ds.length ∧ ∃ S e acc vs ys', Grow G.K S1 H1 (wipe τ own) (wipeE e1 own) S H (wipe τ own) (wipeE e own) ∧ H D = some (.lst vs) ∧ S D = none ∧ ¬ OwnAt (wipe τ own) (wipeE e own) D ∧ RpA G.K S vs acc ∧
          lc2Go tg own fI1 tg1 own1 fg (ds.drop i) e = .ok ys' eEnd ∧ acc ++ ys' = ys
        refine ⟨fun i m H => m = ds.length - i ∧ St' i H, ⟨ds.length, by simp, Nat.zero_le _, S1, e1, [], [], ys, ?_, upd_same, rel1.sub.non hD, bas.not_own hD, .nil, by simpa using hgo, rfl⟩, ?_⟩
        · exact bas.grow.laid hD
        · rintro i m H2 ⟨rfl, hi, S2, e2, acc, vs, ys', gB, hDl, hDs, hDo, hacc, hrest, hys⟩
          have lkN : LkH none H2 := fun a xs hl => by cases hl
          have sub2 : Sub S1 H2 := gB.sub.tr gB.rel.sub
          by_cases hlt : i < ds.length
          · right
            refine ⟨wk.go i H2 sub2 lkN hlt, St' (i + 1), fun H' z => ⟨ds.length - (i + 1), by omega, rfl, z⟩, fun x H3 hy => ?_⟩
            have hd : ds[i]? = some ds[i] := List.getElem?_eq_getElem hlt
            have hdrop : ds.drop i = ds[i] :: ds.drop (i + 1) := List.drop_eq_getElem_cons hlt
            obtain ⟨S3, gy, py⟩ := wk.yld i H2 x H3 ds[i] _ _ S2 gB.sub lkN gB.rel hy hd
            rw [hdrop] at hrest
            simp only [lc2Go] at hrest
            cases htg : asgT tg ds[i] (wipeE e2 own) with
            | none => rw [htg] at hrest; cases hrest
            | some e3 =>
              rw [htg] at hrest
              simp only at hrest
              obtain ⟨τ2, tq, gt, tl, tel, tout⟩ := tg_ok (Vc.base G) (fun k hk τ x => base_set (htn k (hown k hk)).1) gy.rel.grow py htg
              have hw : wipe τ2 own = wipe τ own := wipe_eq (tl.trans (wipe_length τ own)) fun j hj => (tout j fun z => hj (hown j z)).1.trans (wipe_out hj)
              have d3 : H3 D = some (.lst vs) := gy.keep _ _ hDl hDo
              have s3 : S3 D = none := gy.free _ _ hDl hDo hDs
              have o3 : ¬ OwnAt τ2 e3 D := gt.notOwn d3 (gy.notOwn hDl hDo)
              have gAll := (gB.trans gy).trans gt
              have lk2 : Lk G τ2 S3 := ((lnk.mono g1.sub).mono (gB.sub.tr gy.sub)).tgt hob (fun k hk => htn k (hown k hk)) fun j hj => (tout j hj).1
              rw [← hτ, ← base_wipe]
              refine tq _ ⟨by rw [← base_wipe, hw], τ2, rfl, S3, e3, gt.rel, lk2, ?_⟩
              intro S4 H4 g4
              rw [if_pos rfl]
              refine ⟨τ2, rfl, S4, e3, g4.rel, lk2.mono g4.sub, ?_⟩
              cases hI1 : fI1 e3 with
              | st => rw [hI1] at hrest; cases hrest
              | ex x e4 => rw [hI1] at hrest; cases hrest
              | ok ds1 lk1 e4 =>
                rw [hI1] at hrest
                cases lk1 with
                | some _ => cases hrest
                | none =>
                simp only at hrest
                cases hin : lcGo tg1 own1 (fun e => .ok true e) fg ds1 e4 with
                | st => rw [hin] at hrest; cases hrest
                | ok ysI e5 =>
                rw [hin] at hrest
                simp only at hrest
                cases hr2 : lc2Go tg own fI1 tg1 own1 fg (ds.drop (i + 1)) e5 with
                | st => rw [hr2] at hrest; cases hrest
                | ok zs e6 =>
                rw [hr2] at hrest
                have hz : ysI ++ zs = ys' ∧ e6 = eEnd := by
                  injection hrest with a b
                  exact ⟨a, b⟩
                obtain ⟨hz1, rfl⟩ := hz
                intro S5 H5 J1 lka1 g5 hlk1 wk1
                have hlk1 : lka1 = none := hlk1
                subst hlk1
                have gT := (gAll.trans g4).trans g5
                have d4 := g4.keep _ _ d3 o3
                have s4 := g4.free _ _ d3 o3 s3
                have o4 := g4.notOwn d3 o3
                have d5 := g5.keep _ _ d4 o4
                have s5 := g5.free _ _ d4 o4 s4
                have o5 := g5.notOwn d4 o4
                obtain ⟨gI, oI⟩ := gT.wiped own1 own1 fun _ h => h
                let In' : Nat → Hp → Prop := fun j H => j ≤ ds1.length ∧ ∃ S e acc1 vs1 ys1, Sub S5 S ∧ Grow G.K S1 H1 (wipe τ own) (wipeE e1 own) S H (wipe τ2 own1) (wipeE e own1) ∧ H D = some (.lst vs1) ∧ S D = none ∧ ¬ OwnAt (wipe τ2 own1) (wipeE e own1) D ∧ RpA G.K S vs1 (acc ++ acc1) ∧
                  lcGo tg1 own1 (fun e => .ok true e) fg (ds1.drop j) e = .ok ys1 e5 ∧ acc1 ++ ys1 = ysI
                refine ⟨fun j m H => m = ds1.length - j ∧ In' j H, ⟨ds1.length, by simp, Nat.zero_le _, S5, e4, [], vs, ysI, Sub.rfl', gI, d5, s5, fun w => o5 (oI D w), by rw [List.append_nil]; exact hacc.mono ((gy.sub.tr g4.sub).tr g5.sub), by simpa using hin, rfl⟩, ?_⟩
                rintro j m H6 ⟨rfl, hj, S6, e7, acc1, vs1, ys1, cS, gC, cDl, cDs, cDo, cacc, crest, cys⟩
                have lkN6 : LkH none H6 := fun a xs hl => by cases hl
                have sub6 : Sub S5 H6 := cS.tr gC.rel.sub
                by_cases hlt1 : j < ds1.length
                · right
                  refine ⟨wk1.go j H6 sub6 lkN6 hlt1, In' (j + 1), fun H' z => ⟨ds1.length - (j + 1), by omega, rfl, z⟩, fun x1 H7 hy1 => ?_⟩
                  have hd1 : ds1[j]? = some ds1[j] := List.getElem?_eq_getElem hlt1
                  have hdrop1 : ds1.drop j = ds1[j] :: ds1.drop (j + 1) := List.drop_eq_getElem_cons hlt1
                  obtain ⟨S7, gy1, py1⟩ := wk1.yld j H6 x1 H7 ds1[j] _ _ S6 cS lkN6 gC.rel hy1 hd1
                  rw [hdrop1] at crest
                  simp only [lcGo] at crest
                  cases htg1 : asgT tg1 ds1[j] (wipeE e7 own1) with
                  | none => rw [htg1] at crest; cases crest
                  | some e8 =>
                    rw [htg1] at crest
                    simp only at crest
                    obtain ⟨τ3, tq1, gt1, tl1, tel1, tout1⟩ := tg_ok (Vc.base G) (fun k hk τ x => base_set (htn k (h1o k (hown1 k hk))).1) gy1.rel.grow py1 htg1
                    have hw1 : wipe τ3 own1 = wipe τ2 own1 := wipe_eq (tl1.trans (wipe_length τ2 own1)) fun k hk => (tout1 k fun z => hk (hown1 k z)).1.trans (wipe_out hk)
                    have d7 : H7 D = some (.lst vs1) := gy1.keep _ _ cDl cDo
                    have s7 : S7 D = none := gy1.free _ _ cDl cDo cDs
                    have o7 : ¬ OwnAt τ3 e8 D := gt1.notOwn d7 (gy1.notOwn cDl cDo)
                    have gA1 := (gC.trans gy1).trans gt1
                    have lk3 : Lk G τ3 S7 := (((lk2.mono g4.sub).mono g5.sub).mono (cS.tr gy1.sub)).tgt (fun k hk => hob k (h1o k hk)) (fun k hk => htn k (h1o k (hown1 k hk))) fun j hj => (tout1 j hj).1
                    rw [← base_wipe]
                    refine tq1 _ ⟨by rw [← base_wipe, hw1], τ3, rfl, S7, e8, gt1.rel, lk3, ?_⟩
                    intro S8 H8 g8
                    have d8 := g8.keep _ _ d7 o7
                    have s8 := g8.free _ _ d7 o7 s7
                    have o8 := g8.notOwn d7 o7
                    rw [if_pos rfl]
                    refine ⟨τ3, rfl, S8, e8, g8.rel, lk3.mono g8.sub, ?_⟩
                    cases hfg : fg e8 with
                    | st => rw [hfg] at crest; cases crest
                    | ex x e9 => rw [hfg] at crest; cases crest
                    | ok r e9 =>
                      rw [hfg] at crest
                      simp only at crest
                      cases htv : toV e9 r with
                      | none => rw [htv] at crest; cases crest
                      | some p =>
                        obtain ⟨y', e10⟩ := p
                        rw [htv] at crest
                        simp only at crest
                        cases hr3 : lcGo tg1 own1 (fun e => .ok true e) fg (ds1.drop (j + 1)) e10 with
                        | st => rw [hr3] at crest; cases crest
                        | ok ys2 e11 =>
                          rw [hr3] at crest
                          have hz : y' :: ys2 = ys1 ∧ e11 = e5 := by
                            injection crest with a b
                            exact ⟨a, b⟩
                          obtain ⟨rfl, rfl⟩ := hz
                          intro y S9 H9 g9 p9 f9
                          obtain ⟨S10, g10, s910, pv, _⟩ := toV_ok g9 p9 f9 htv
                          have d10 := g10.keep _ _ d8 o8
                          have s10 := g10.free _ _ d8 o8 s8
                          have o10 := g10.notOwn d8 o8
                          refine ⟨vs1, d10, ?_, ?_⟩
                          · have hL2 : ys.length ≤ sizeLine := hL
                            have : ys.length = acc.length + (acc1.length + (ys2.length + 1) + zs.length) := by rw [← hys, ← hz1, ← cys]; simp; omega
                            have hc := cacc.length
                            rw [List.length_append] at hc
                            omega
                          · obtain ⟨gw, ow⟩ := (((gA1.trans g8).trans g10).putD (o := .lst (vs1 ++ [y])) s10 o10 hD fun u z => ⟨vs1, by rw [d10] at z; exact (Option.some.inj z).symm⟩).wiped own1 own1 fun _ h => h
                            rw [hw1] at gw ow
                            have hS := (gy1.sub.tr g8.sub).tr g10.sub
                            refine ⟨hlt1, S10, e10, acc1 ++ [y'], vs1 ++ [y], ys2, cS.tr hS, gw, upd_same, s10, fun w => o10 (ow D w), ?_, hr3, by rw [← cys]; simp⟩
                            rw [← List.append_assoc]
                            exact (cacc.mono hS).append (.cons pv .nil)
                · have hj' : j = ds1.length := by omega
                  subst hj'
                  left
                  refine ⟨wk1.stop H6 sub6 lkN6, ?_⟩
                  rw [List.drop_length] at crest
                  simp only [lcGo] at crest
                  cases crest
                  rw [List.append_nil] at cys
                  subst cys
                  obtain ⟨gw, ow⟩ := gC.wiped own own fun _ h => h
                  rw [wipe_twice h1o, hw, wipeE_twice h1o] at gw ow
                  exact ⟨hlt, S6, e5, acc ++ acc1, vs1, zs, gw, cDl, cDs, fun w => cDo (ow D w), cacc, hr2, by rw [← hys, ← hz1]; simp⟩
          · have hi' : i = ds.length := by omega
            subst hi'
            left
            refine ⟨wk.stop H2 sub2 lkN, ?_⟩
            rw [List.drop_length] at hrest
            simp only [lc2Go] at hrest
            cases hrest
            rw [List.append_nil] at hys
            subst hys
            have he : List.length eEnd = e1.length := by
              have := gB.rel.len
              rw [wipeE_len, wipe_length] at this
              rw [this, rel1.len]
            obtain ⟨gF, nF⟩ := unwipe (σ3 := τ) rel1 gB (fun j hj => wipe_out hj) (fun j hj => (wipe_out hj).symm) (fun j _ => rfl) rfl he
            exact k (.ref D) S2 H2 (g1.trans gF) ⟨D, vs, rfl, hDl, hDs, hacc, nF D hD hDo⟩ (fun a ha => by cases ha; exact g1.new hD)
      · rw [if_neg hL] at k; exact k.elim
end
section
variable {X : Cx} {G : Gx} {Φ : Ph} {c : Cc} {tg tg1 : Tg} {own own1 : List Nat} {fI fI1 : En → RI} {fg : En → R}
theorem s_lc2 (F : Fit X c G Φ) {tge iter tge1 iter1 elt : Expr} {scope : Scope} {pos : Pos} (hown : ∀ k ∈ tgIx tg, k ∈ own) (hown1 : ∀ k ∈ tgIx tg1, k ∈ own1) (h1o : ∀ k ∈ own1, k ∈ own) (hop : ∀ k ∈ own, k ∉ c.pr) (hno : (ownN c own).map (·.2) = own) (hb : blkC c.N c.sc scope (ownN c own) = true) (hp : plainX iter = true) (hp1 : plainX iter1 = true)
    (hi : PI X tge iter (tI G fI)) (htg : chkTg (c.blk scope) tg tge = true) (htg1 : chkTg (c.blk scope) tg1 tge1 = true)
    (hi1 : ∀ (s : Shared) (H : Hp) (C : Addr) (cl : List (Str × Addr)) (fp : List Addr), PI (X.blk s H scope (compEnvC scope cl C X.env) fp) tge1 iter1 (tI G.nox fI1))
    (he : ∀ (s : Shared) (H : Hp) (C : Addr) (cl : List (Str × Addr)) (fp : List Addr), PE (X.blk s H scope (compEnvC scope cl C X.env) fp) elt (tE G.nox fg)) :
    PE X (.ListComp elt [⟨tge, iter, [], 0⟩, ⟨tge1, iter1, [], 0⟩] scope pos) (tE G (semLc2 tg own fI fI1 tg1 own1 fg)) := by
  have ok : BlkOk X.N X.env.scope scope (ownN c own) := by rw [F.N, F.sc]; exact blkOk_by hb
  have yes : ∀ (s : Shared) (H : Hp) (C : Addr) (cl : List (Str × Addr)) (fp : List Addr), PTs (X.blk s H scope (compEnvC scope cl C X.env) fp) [] (tT G.nox fun e => .ok true e) :=
    fun s H C cl fp => ⟨fun pins s σ H Q I ⟨τ, hτ, S, e, rel, lnk, k⟩ => pts_nil.run pins s σ H Q I (k S H rel.grow)⟩
  refine PEwk (pe_lc2 (g := tgG X.K tg) (g1 := tgG X.K tg1) (vs1 := own1) F.calm (by rw [F.N]; exact F.nd) hi ok (by rw [hno]; exact h1o) (fun s H C cl fp => (s_tg (F.blk s H scope C cl fp) htg).1) yes hi1
    (fun s H C cl fp => (s_tg (F.blk s H scope C cl fp) htg1).1) yes he (fun x => plain_set hp) fun _ x => plain_set hp1) fun σ H Q q => ?_
  rw [hno, F.K]
  exact lc2_read hown hown1 h1o (fun k hk => (F.out (hop k hk)).2) (fun k hk => F.out (hop k hk)) σ H Q q
end
end Vc
end
section
set_option Elab.async false
set_option linter.all false
namespace Vc
open PySem PySem.Spec PyProof.Rows L2
variable [XrC]
def vName : Expr → Option Str
  | .Name x _ => some x
  | _ => none
theorem vName_ok {e : Expr} {x : Str} (h : vName e = some x) : ∃ p, e = .Name x p := by
  cases e <;> first | (simp [vName] at h; done) | (simp [vName] at h; subst h; exact ⟨_, rfl⟩)
section
variable {X : Cx} {G : Gx} {a b : Expr} {es : List Expr} {pos : Pos} {f g : En → R}
theorem s_dc0 : PE X (.Dict [] [] pos) (tE G fun e => .ok (.v (.dict [])) e) :=
  PEwk pe_dnewK fun σ H Q ⟨τ, hτ, S, e, rel, lnk, k⟩ p hp => by
    have sp : S p = none := rel.sub.non hp
    exact k (.ref p) (upd S p (.dK [])) _ ((rel.grow.laid hp).frozen upd_same sp (rel.not_own hp) (.inl hp)) (.dct upd_same) trivial
/-- the names of defs, as a display -/
def vNames : List Expr → Option (List Str)
  | [] => some []
  | e :: r => match vName e, vNames r with
    | some x, some xs => some (x :: xs)
    | _, _ => none
theorem arm_eval_Call_Sub (o i : Expr) (p : Pos) (args : List Expr) (keywords : List Keyword) (pos : Pos) (env : Env) : eval (.Call (.Subscript o i p) args keywords pos) env = (do
    callWith pos (← eval (.Subscript o i p) env) [] (backTo pos (starEach args env)) (backToKw pos (keywordEach keywords env))) := rfl
/-- the defs' objects -/
def FsAt (X : Cx) (c : Cc) : List Str → List Nat → List V → Prop
  | [], [], [] => True
  | x :: xs, fn :: fns, v :: vs => c.defs.lookup x = some fn ∧ (∃ fa, X.mg x = some (.ref fa) ∧ v = .ref fa) ∧ FsAt X c xs fns vs
  | _, _, _ => False
theorem pa_names {c : Cc} {Φ : Ph} (F : Fit X c G Φ) : ∀ {l : List Expr} {xs : List Str} {fns : List Nat}, vNames l = some xs → xs.length = fns.length → (∀ (j : Nat) x fn, xs[j]? = some x → fns[j]? = some fn → c.defs.lookup x = some fn ∧ Gl X x ∧ (x == ("__debug__" : Str)) = false) →
    ∃ vs, FsAt X c xs fns vs ∧ vs.length = fns.length ∧ PA X l (fun σ H Q => Q vs H)
  | [], xs, fns, h, hl, _ => by
    simp [vNames] at h; subst h
    cases fns with
    | nil => exact ⟨[], trivial, rfl, pa_nil⟩
    | cons _ _ => simp at hl
  | e :: r, xs, fns, h, hl, hk => by
    unfold vNames at h
    split at h
    · rename_i x ys h1 h2
      cases h
      cases fns with
      | nil => simp at hl
      | cons fn fns =>
        obtain ⟨p, rfl⟩ := vName_ok h1
        obtain ⟨vs, a1, a2, a3⟩ := pa_names F h2 (by simpa using hl) fun j x fn hx hf => hk (j + 1) x fn (by simpa using hx) (by simpa using hf)
        obtain ⟨k1, hg, hdb⟩ := hk 0 x fn rfl rfl
        obtain ⟨fa, b1, b2, _⟩ := F.call k1
        refine ⟨.ref fa :: vs, ⟨k1, ⟨fa, b1, rfl⟩, a1⟩, by simp [a2], ?_⟩
        exact ⟨fun pos pins s σ H Q I q => (pa_cons (pe_glob (v := .ref fa) hg b1 rfl hdb) a3 rfl).run pos pins s σ H Q I q⟩
    · cases h
theorem FsAt.get {c : Cc} : ∀ {xs : List Str} {fns : List Nat} {vs : List V} {j : Nat} {fn : Nat}, FsAt X c xs fns vs → fns[j]? = some fn → ∃ x fa, xs[j]? = some x ∧ vs[j]? = some (.ref fa) ∧ c.defs.lookup x = some fn ∧ X.mg x = some (.ref fa)
  | [], [], [], j, fn, _, h => by simp at h
  | x :: xs, g :: fns, v :: vs, 0, fn, ⟨h1, ⟨fa, h2, h3⟩, _⟩, h => by
    simp at h; subst h; subst h3
    exact ⟨x, fa, rfl, rfl, h1, h2⟩
  | x :: xs, g :: fns, v :: vs, j + 1, fn, ⟨_, _, h3⟩, h => by
    obtain ⟨y, fa, e1, e2, e3, e4⟩ := FsAt.get (j := j) h3 (by simpa using h)
    exact ⟨y, fa, by simpa using e1, by simpa using e2, e3, e4⟩
  | [], [], _ :: _, _, _, h, _ => h.elim
  | [], _ :: _, _, _, _, h, _ => by cases h
  | _ :: _, [], _, _, _, h, _ => by cases h
  | _ :: _, _ :: _, [], _, _, h, _ => by cases h
noncomputable def semCallI (cs : Nat → List RV → En → R) (fns : List Nat) (fi : En → R) (gl : En → RL) (e : En) : R := (fi e).bd fun x e1 => match res e1 x with
  | some (.int i) => match (ixOf fns.length i).bind fun j => fns[j]? with
    | some fn => (gl e1).bd fun rs e2 => cs fn rs e2
    | none => .st
  | _ => .st
theorem s_callI {c : Cc} {Φ : Ph} (F : Fit X c G Φ) {cs : Nat → List RV → En → R} {fns : List Nat} (hcs : ∀ fn ∈ fns, Cs G Φ fn (c.md fn).length (cs fn)) {l : List Expr} {xs : List Str} {ix : Expr} {lp sp : Pos} {fi : En → R} {gl : En → RL} (hv : vNames l = some xs) (hl : xs.length = fns.length)
    (hk : ∀ (j : Nat) x fn, xs[j]? = some x → fns[j]? = some fn → c.defs.lookup x = some fn ∧ Gl X x ∧ (x == ("__debug__" : Str)) = false) (hps : ∀ fn ∈ fns, (c.ps fn).length = (c.md fn).length) (hz : fns.length < 1000) (hi : plainX ix = true) (hpa : plainX a = true) (hpe : es.all plainX = true)
    (hx : PE X ix (tE G fi)) (ha : PA X (a :: es) (tL G gl)) : PE X (.Call (.Subscript (.List l lp) ix sp) (a :: es) [] pos) (tE G (semCallI cs fns fi gl)) := by
  obtain ⟨vs, V1, V2, V3⟩ := pa_names F hv hl hk
  refine ⟨fun pins s σ H Q I ⟨τ, hτ, S, e, rel, lnk, k⟩ => ?_⟩
  subst hτ
  rw [arm_eval_Call_Sub]
  refine wpAny_bind ?_
  -- the def, then its arguments
  refine wpAny_mono ((pe_ix ix_list (pe_lst V3) hx (plain_ix hi)).run pins s (base G τ) H (fun v H1 => ∃ x fn fa S1 e1, Lk G τ S1 ∧ v = .ref fa ∧ c.defs.lookup x = some fn ∧ X.mg x = some (.ref fa) ∧ fn ∈ fns ∧ Rel G.K S1 H1 τ e1 ∧ PR G S1 H1 τ e1 Q ((gl e1).bd fun rs e2 => cs fn rs e2)) I ?_) (fun u s1 hu => ?_) fun _ _ z => z
  · refine ⟨by rw [sizeLine_eq]; omega, fun p hp => ?_⟩
    have g0 : Grow G.K S H τ e S (upd H p (.lst vs)) τ e := rel.grow.laid hp
    refine ⟨τ, rfl, S, e, g0.rel, lnk, (PR.step g0 k).bd fun ri e1 y S1 H1 _ g1 p1 _ k1 => ?_⟩
    split at k1
    · rename_i i hi2
      split at k1
      · rename_i fn hfn
        obtain ⟨j, hj1, hj2⟩ := Option.bind_eq_some_iff.mp hfn
        obtain ⟨x, fa, w1, w2, w3, w4⟩ := V1.get hj2
        have hp1 : H1 p = some (.lst vs) := g1.keep p _ upd_same (rel.not_own hp)
        obtain rfl := (res_ok g1.rel p1 hi2).int
        refine ⟨p, vs, i, .ref fa, rfl, rfl, sqL_of hp1, ?_, x, fn, fa, S1, e1, lnk.mono g1.sub, rfl, w3, w4, List.mem_of_getElem? hj2, g1.rel, k1.step g1⟩
        unfold atI
        rw [ixOf_N _ _ j (by rw [V2]; exact hj1)]
        exact w2
      · exact k1.elim
    · exact k1.elim
  · obtain ⟨v, H1, I1, rv, x, fn, fa, S1, e1, lnk1, rfl, w3, w4, hmem, rel1, k1⟩ := hu
    cases (show u = Value.ref fa from rv)
    obtain ⟨fa', h1, h2, run⟩ := F.call w3
    rw [w4] at h1
    cases h1
    refine PySem.W.callWith_K (h₀ := X.base) I1.ok.mod.kin h2 (thn (ha.run pos pins s1 (base G τ) H1 (fun xs H1 => rCall G.K G.xr Φ fn xs H1 Q (fun cls d H' => G.W cls d (base G τ) H') ∧ xs.length = (c.md fn).length) I1 ⟨τ, rfl, S1, e1, rel1, lnk1, PL.bd k1 fun rs e1 xs S1 H1 _ g1 p1 f1 k1 => hcs fn hmem g1 p1 f1 k1⟩) fun us s2 ⟨ws, H2, I2, r, q⟩ => ⟨I2.kIn, ?_⟩) (star_cons hpa) (star_flags hpe)
    have hus : us.length = (c.ps fn).length := by rw [← r.length, q.2, hps fn hmem]
    exact run pins s2 (base G τ) H2 us us [] ws Q I2 List.nodup_nil (fun y hy => absurd hy (by simp)) hus (kwSel_all hus) r q.1
end
end Vc
end
section
set_option Elab.async false
set_option linter.all false
namespace Vc
open PySem PySem.Spec PyProof.Rows L2
variable [XrC]
def nameIs (c : Cc) (i : Nat) (o : Expr) : Bool := ghB c i && match vName o with
  | some y => decide (c.N[i]? = some y) && (visB c.sc y && (!(y == ("__debug__" : Str)) && !(y == ("__classdict__" : Str))))
  | none => false
theorem XOk.kit {P : Program} {w : World} {K : Fg} {mg : Str → Option Value} {base : Heap} {xs : List (Str × XI)} (O : XOk P w K mg base xs) {y z : Str} {yi zi : XI} {C C' : Addr} (hy : xs.lookup y = some yi) (hz : xs.lookup z = some zi) (gy : mg y = some (.ref C)) (gz : mg z = some (.ref C')) :
    PySem.W.kitOne K (.ref C) (.ref C') = some (subX yi.id zi.id) := by
  obtain ⟨C2, E⟩ := O.ent z zi hz
  have e := E.gC
  rw [gz] at e; cases e
  refine kit_of2 E.t (O.sub y yi z zi hy hz C C' gy gz) fun e => ?_
  subst e
  have h1 := O.sub y yi z zi hy hz C C gy gz
  have h2 := O.sub y yi y yi hy hy C C gy gy
  rw [h1] at h2
  have h3 : subX yi.id zi.id = subX yi.id yi.id := by injection h2
  rw [h3]; simp [subX]
theorem name_gh {c : Cc} {i : Nat} {o : Expr} (h : nameIs c i o = true) : ghB c i = true := (Bool.and_eq_true_iff.mp h).1
theorem name_ok {c : Cc} {i : Nat} {o : Expr} (h : nameIs c i o = true) : ∃ y p, o = .Name y p ∧ c.N[i]? = some y ∧ visB c.sc y = true ∧ (y == ("__debug__" : Str)) = false ∧ (y == ("__classdict__" : Str)) = false := by
  replace h := (Bool.and_eq_true_iff.mp h).2
  split at h
  · rename_i y hv
    obtain ⟨p, rfl⟩ := vName_ok hv
    simp only [Bool.and_eq_true, decide_eq_true_eq, Bool.not_eq_true'] at h
    exact ⟨y, p, rfl, h.1, h.2.1, h.2.2.1, h.2.2.2⟩
  · cases h

theorem kit_non {K : Fg} {C : Addr} (t : XcT K C) : PySem.W.kitOne K (.type "NoneType") (.ref C) = some false := by
  have e2 : ((PySem.W.clsIn K C).isSome && PySem.W.typeIn K (.ref C) == some (.type "type")) = true := by
    have z : (PySem.W.clsIn K C).isSome = true := t.cl
    rw [z, t.tyC]; rfl
  unfold PySem.W.kitOne
  rw [if_neg (by simp)]
  unfold PySem.W.kitCls
  simp only [e2, if_true]
  have e : PySem.fastBuiltinMro "NoneType" = some [.type "NoneType", .type "object"] := by decide +kernel
  show (PySem.fastBuiltinMro "NoneType").map (·.contains (Value.ref C)) = some false
  rw [e]
  rfl
/-- one class of a test -/
def ClsK (X : Cx) (c : Cc) (k : Nat) (cl : Expr) (cv : V) (u : Value) : Prop := PE X cl (tC cv) ∧ ClsV cv u ∧ (∀ y1 yi C, c.xs.lookup y1 = some yi → X.mg y1 = some (.ref C) → XcT X.K C → PySem.W.kitOne X.K (.ref C) u = some (subX yi.id k)) ∧ PySem.W.kitOne X.K (.type "NoneType") u = some false
def clsB (c : Cc) (k : Nat) (cl : Expr) : Bool := match vName cl with
  | some y => glB c.sc y && (if k = 1 then decide (y = "ValueError") else match c.xs.lookup y with
    | some xi => decide (xi.id = k)
    | none => false)
  | none => false
section
variable {X : Cx} {c : Cc} {G : Gx} {Φ : Ph} {a b : Expr} {pos : Pos}
theorem glB_ok {X : Cx} {c : Cc} {G : Gx} {Φ : Ph} (F : Fit X c G Φ) {x : Str} (h : glB c.sc x = true) : Gl X x ∧ (x == ("__debug__" : Str)) = false := by
  simp only [glB, Bool.and_eq_true, beq_iff_eq, bne_iff_ne, ne_eq] at h
  refine ⟨?_, by simpa using h.2.1⟩
  show X.env.scope.names.lookup x = some .globalImplicit
  rw [F.sc]; exact h.1
theorem clsB_ok (F : Fit X c G Φ) {k : Nat} {cl : Expr} (h : clsB c k cl = true) : ∃ cv u, ClsK X c k cl cv u := by
  unfold clsB at h
  split at h
  · rename_i y hy
    obtain ⟨p2, rfl⟩ := vName_ok hy
    obtain ⟨h3, h4⟩ := Bool.and_eq_true_iff.mp h
    obtain ⟨hgy, hdb⟩ := glB_ok F h3
    by_cases hk2 : k = 1
    · rw [if_pos hk2] at h4
      obtain rfl := of_decide_eq_true h4
      subst hk2
      exact ⟨.ty "ValueError", .type "ValueError", pe_bltn (u := .type "ValueError") hgy (F.blt _ (by decide)) (by decide +kernel) rfl (by decide) (by decide), .ty _, fun y1 yi C _ _ t => by rw [kit_ve t]; simp [subX], kit_ty (by decide +kernel)⟩
    · rw [if_neg hk2] at h4
      split at h4
      · rename_i xi hxi
        have hxi2 := of_decide_eq_true h4
        obtain ⟨C2, E⟩ := F.xs.ent _ _ hxi
        exact ⟨.ref C2, .ref C2, pe_glob hgy E.gC rfl hdb, .own _, fun y1 yi C hy1 gy _ => by rw [F.xs.kit hy1 hxi gy E.gC, hxi2], kit_non E.t⟩
      · cases h4
  · cases h
/-- the error of a slot, as it lies -/
theorem XcAt.at (F : Fit X c G Φ) {S H : Hp} {a : Addr} {x : Xn} (h : XcAt S H a x) : ∃ y yi C d, c.xs.lookup y = some yi ∧ yi.id = x.c ∧ X.mg y = some (.ref C) ∧ H a = some (exK a (.ref C) d) ∧ XcT X.K C ∧ match yi.f, x.f with
    | none, none => d = none
    | some f, some fd => ∃ dd v, d = some dd ∧ H dd = some (.xd [(f, v)]) ∧ Rp X.K S v fd
    | _, _ => False := by
  obtain ⟨cls, d, h1, h2⟩ := h
  rw [F.xc, F.xr] at h2
  obtain ⟨y, yi, C, z1, z2, z3, rfl, z5⟩ := h2
  obtain ⟨C2, E⟩ := F.xs.ent y yi z1
  have e := E.gC
  rw [z3] at e; cases e
  exact ⟨y, yi, C, d, z1, z2, z3, h1, E.t, z5⟩
theorem inst_at {pins : List (Addr × Obj)} {σ : L2.St} {H : Hp} {s : Shared} {a C : Addr} {d : Option Addr} (I : L2.Inv X pins σ H s) (h : H a = some (exK a (.ref C) d)) (hd : d = none ∨ ∃ dd fs, d = some dd ∧ H dd = some (.xd fs)) : ∃ oe od, PySem.W.InstAt s.heap a oe C od ∧ (∀ dd, d = some dd → ∃ o, od = some o ∧ s.heap.get? dd = some o) := by
  obtain ⟨⟨oe, vs, ha, hz, hdat⟩, _, _⟩ := I.hok a _ h
  have noc : PySem.W.notCls oe = true := by unfold PySem.W.notCls; rw [hdat] <;> rfl
  rcases hd with rfl | ⟨dd, fs, rfl, hdd⟩
  · refine ⟨oe, none, ⟨ha, hz.1, noc, ?_⟩, fun _ z => by cases z⟩
    rw [hz.2]
    trivial
  · have hox : ObjOk X.prog X.w H s.heap dd (.xd fs) := I.hok dd _ hdd
    obtain ⟨mA, hns, hr⟩ := hox
    obtain ⟨od, ho, hl⟩ := lookIn_ns hns
    refine ⟨oe, some od, ⟨ha, hz.1, noc, ?_⟩, fun dd' z => by cases z; exact ⟨od, rfl, ho⟩⟩
    rw [hz.2]
    exact ho
/-- isinstance(x, C) of an error that is tracked -/
def rIsy (K : Fg) : List V → Hp → VK → Prop := fun xs H Q => ∃ (a C : Addr) (d : Option Addr) (cv : V) (u : Value) (b : Bool), xs = [.ref a, cv] ∧ ClsV cv u ∧ H a = some (exK a (.ref C) d) ∧ XcT K C ∧ XgT K ∧ (d = none ∨ ∃ dd fs, d = some dd ∧ H dd = some (.xd fs)) ∧ PySem.W.kitOne K (.ref C) u = some b ∧ Q (.bl b) H
def rIsyT (K : Fg) : List V → Hp → VK → Prop := fun xs H Q => ∃ (a C : Addr) (d : Option Addr) (tp : Addr) (cs : List V) (us : List Value) (b : Bool), xs = [.ref a, .ref tp] ∧ H tp = some (.tup cs) ∧ Paired ClsV cs us ∧ H a = some (exK a (.ref C) d) ∧ XcT K C ∧ XgT K ∧ (d = none ∨ ∃ dd fs, d = some dd ∧ H dd = some (.xd fs)) ∧ PySem.W.kitAny K (.ref C) us = some b ∧ Q (.bl b) H
theorem call_isy : CallR X (.builtin "isinstance") (rIsy X.K) := by
  intro pins s σ H xs us Q I r h
  obtain ⟨a, C, d, cv, u, b, rfl, hc, ha, t, gg, hd, hk, q⟩ := h
  obtain ⟨u1, u2, rfl, r1, r2⟩ := vals2 r
  have e2 := hc.eq r2
  subst e2
  cases (show u1 = Value.ref a from r1)
  obtain ⟨oe, od, J, _⟩ := inst_at I ha hd
  exact PySem.W.kia_one (PySem.W.kitx_exc (x := a) (ox := oe) (od := od) t.cl t.ga t.gg t.exC t.dc gg.n1 gg.n2 t.mo) I.kIn J hk (fun z => by cases z) fun tk => ⟨.bl b, H, I.tok tk, rfl, q⟩
theorem call_isyT : CallR X (.builtin "isinstance") (rIsyT X.K) := by
  intro pins s σ H xs us Q I r h
  obtain ⟨a, C, d, tp, cs, ws, b, rfl, hT, k, ha, t, gg, hd, hk, q⟩ := h
  obtain ⟨u1, u2, rfl, r1, r2⟩ := vals2 r
  cases (show u2 = Value.ref tp from r2)
  cases (show u1 = Value.ref a from r1)
  obtain ⟨oe, od, J, _⟩ := inst_at I ha hd
  obtain ⟨_, its, rv, o, h1, h2, n, h3⟩ := (show ObjOk X.prog X.w H s.heap tp (.tup cs) from I.hok tp _ hT)
  have e3 := ClsV.all k rv
  subst e3
  obtain ⟨oc, od2, dt, sl⟩ := o
  simp only at h2 h3
  subst h2 h3
  exact PySem.W.kia_tup (PySem.W.kitx_exc (x := a) (ox := oe) (od := od) t.cl t.ga t.gg t.exC t.dc gg.n1 gg.n2 t.mo) I.kIn J h1 hk (fun z => by cases z) fun tk => ⟨.bl b, H, I.tok tk, rfl, q⟩
theorem call_is1 : CallR X (.builtin "isinstance") (fun xs H Q => rIsi X.K xs H Q ∨ rIsy X.K xs H Q) := by
  intro pins s σ H xs us Q I r h
  rcases h with h | h
  · exact call_isi pins s σ H xs us Q I r h
  · exact call_isy pins s σ H xs us Q I r h
theorem call_is2 : CallR X (.builtin "isinstance") (fun xs H Q => rIsiT X.K xs H Q ∨ rIsyT X.K xs H Q) := by
  intro pins s σ H xs us Q I r h
  rcases h with h | h
  · exact call_isiT pins s σ H xs us Q I r h
  · exact call_isyT pins s σ H xs us Q I r h
noncomputable def semIsx (i : Nat) (ks : List Nat) (e : En) : R := match e[i]? with
  | some (.x x) => .ok (.v (.bool (ks.any fun k => subX x.c k))) e
  | some (.v d) => if isNo d = true then .ok (.v (.bool false)) e else .st
  | _ => .st
theorem isNo_eq {d : D} (h : isNo d = true) : d = .none := by cases d <;> first | rfl | (simp [isNo] at h)
theorem xs_ne {c : Cc} {y : Str} {yi : XI} (h : c.xs.lookup y = some yi) : c.xs ≠ [] := fun z => by rw [z] at h; cases h
theorem xd_of {S H : Hp} {o : Option Str} {f : Option D} {d : Option Addr} (h : match o, f with
    | none, none => d = none
    | some f, some fd => ∃ dd v, d = some dd ∧ H dd = some (.xd [(f, v)]) ∧ Rp X.K S v fd
    | _, _ => False) : d = none ∨ ∃ dd fs, d = some dd ∧ H dd = some (.xd fs) := by
  split at h
  · exact .inl h
  · obtain ⟨dd, fv, e1, e2, _⟩ := h
    exact .inr ⟨dd, _, e1, e2⟩
  · exact h.elim
theorem s_isx1 (F : Fit X c G Φ) {p1 : Pos} {o cl : Expr} {i k : Nat} {cv : V} {u : Value} (hgi : i ∉ G.gh.map (·.1)) (hg : Gl X "isinstance") (ho : PE X o (tVar i)) (hpo : plainX o = true) (hpc : plainX cl = true) (hc : ClsK X c k cl cv u) : PE X (.Call (.Name "isinstance" p1) [o, cl] [] pos) (tE G (semIsx i [k])) := by
  obtain ⟨hc1, hcv, hk1, hk2⟩ := hc
  refine PEwk (pe_callB call_is1 hg (F.blt _ (by decide)) (by decide +kernel) (pa_cons ho (pa_cons hc1 pa_nil (star_cons hpc)) (star_cons hpo)) (by decide) (by decide) (star_cons hpo) (star_flags (by simp [hpc]))) fun σ H Q ⟨τ, hτ, S, e, rel, lnk, q⟩ => ?_
  unfold semIsx at q
  split at q
  · rename_i x hi
    obtain ⟨a, h1, h2⟩ := rel.exc i x hi
    obtain ⟨y, yi, C, d, z1, z2, z3, z4, z5, z6⟩ := h2.at F
    refine ⟨_, at_base hτ hgi h1, .inr ⟨a, C, d, cv, u, _, rfl, hcv, z4, z5, F.xs.g (xs_ne z1), xd_of z6, hk1 y yi C z1 z3 z5, ?_⟩⟩
    rw [z2]
    have := q (.bl _) S H rel.grow (.bl _) trivial
    simpa using this
  · rename_i d hi
    split at q
    · rename_i hn
      obtain rfl := isNo_eq hn
      obtain ⟨v, h1, h2⟩ := rel.val i _ hi
      cases h2
      exact ⟨_, at_base hτ hgi h1, .inl ⟨.non, cv, .type "NoneType", u, false, rfl, hcv, .base .non, hk2, q (.bl _) S H rel.grow (.bl _) trivial⟩⟩
    · exact q.elim
  · exact q.elim
inductive ClsKs (X : Cx) (c : Cc) : List Nat → List Expr → List V → List Value → Prop
  | nil : ClsKs X c [] [] [] []
  | cons {k : Nat} {ks : List Nat} {e : Expr} {es : List Expr} {v : V} {vs : List V} {u : Value} {us : List Value} : ClsK X c k e v u → plainX e = true → ClsKs X c ks es vs us → ClsKs X c (k :: ks) (e :: es) (v :: vs) (u :: us)
theorem ClsKs.pa : ∀ {ks : List Nat} {es : List Expr} {vs : List V} {us : List Value}, ClsKs X c ks es vs us → PA X es (fun σ H Q => Q vs H)
  | _, _, _, _, .nil => pa_nil
  | _, _, _, _, .cons h hp r => ⟨fun pos pins s σ H Q I q => (pa_cons h.1 r.pa (star_cons hp)).run pos pins s σ H Q I q⟩
theorem ClsKs.cls : ∀ {ks : List Nat} {es : List Expr} {vs : List V} {us : List Value}, ClsKs X c ks es vs us → Paired ClsV vs us
  | _, _, _, _, .nil => .nil
  | _, _, _, _, .cons h hp r => .cons h.2.1 r.cls
theorem ClsKs.len : ∀ {ks : List Nat} {es : List Expr} {vs : List V} {us : List Value}, ClsKs X c ks es vs us → vs.length = es.length
  | _, _, _, _, .nil => rfl
  | _, _, _, _, .cons h hp r => congrArg (· + 1) r.len
theorem ClsKs.any {y1 : Str} {yi : XI} {C : Addr} (h1 : c.xs.lookup y1 = some yi) (h2 : X.mg y1 = some (.ref C)) (h3 : XcT X.K C) : ∀ {ks : List Nat} {es : List Expr} {vs : List V} {us : List Value}, ClsKs X c ks es vs us → PySem.W.kitAny X.K (.ref C) us = some (ks.any fun k => subX yi.id k)
  | _, _, _, _, .nil => rfl
  | _, _, _, _, .cons h hp r => kitAny_cons (h.2.2.1 y1 yi C h1 h2 h3) (fun e => by rw [r.any h1 h2 h3, List.any_cons, e]; rfl) fun e => by rw [List.any_cons, e]; rfl
theorem ClsKs.non : ∀ {ks : List Nat} {es : List Expr} {vs : List V} {us : List Value}, ClsKs X c ks es vs us → PySem.W.kitAny X.K (.type "NoneType") us = some false
  | _, _, _, _, .nil => rfl
  | _, _, _, _, .cons h hp r => kitAny_cons h.2.2.2 (fun _ => r.non) fun e => by cases e
theorem s_isx2 (F : Fit X c G Φ) {p1 tp : Pos} {tk} {o : Expr} {cls : List Expr} {i : Nat} {ks : List Nat} {cvs : List V} {us : List Value} (hgi : i ∉ G.gh.map (·.1)) (hg : Gl X "isinstance") (ho : PE X o (tVar i)) (hpo : plainX o = true) (hl : cls.length < 100) (hc : ClsKs X c ks cls cvs us) :
    PE X (.Call (.Name "isinstance" p1) [o, .Tuple cls tk tp] [] pos) (tE G (semIsx i ks)) := by
  refine PEwk (pe_callB call_is2 hg (F.blt _ (by decide)) (by decide +kernel) (pa_cons ho (pa_cons (pe_tup hc.pa) pa_nil rfl) (star_cons hpo)) (by decide) (by decide) (star_cons hpo) rfl) fun σ H Q ⟨τ, hτ, S, e, rel, lnk, q⟩ => ?_
  have hz : cvs.length ≤ sizeLine := by rw [hc.len, sizeLine_eq]; omega
  unfold semIsx at q
  split at q
  · rename_i x hi
    obtain ⟨a, h1, h2⟩ := rel.exc i x hi
    refine ⟨_, at_base hτ hgi h1, hz, fun p hp => ?_⟩
    have g := rel.grow.laid (o := .tup cvs) hp
    obtain ⟨a', h1', h2'⟩ := g.rel.exc i x hi
    rw [h1] at h1'
    cases h1'
    obtain ⟨y, yi, C, d, z1, z2, z3, z4, z5, z6⟩ := h2'.at F
    refine .inr ⟨a, C, d, p, cvs, us, _, rfl, upd_same, hc.cls, z4, z5, F.xs.g (xs_ne z1), xd_of z6, hc.any z1 z3 z5, ?_⟩
    rw [z2]
    exact q (.bl _) S _ g (.bl _) trivial
  · rename_i d hi
    split at q
    · rename_i hn
      obtain rfl := isNo_eq hn
      obtain ⟨v, h1, h2⟩ := rel.val i _ hi
      cases h2
      refine ⟨_, at_base hτ hgi h1, hz, fun p hp => ?_⟩
      have g := rel.grow.laid (o := .tup cvs) hp
      exact .inl ⟨.non, p, cvs, .type "NoneType", us, false, rfl, upd_same, hc.cls, .base .non, hc.non, q (.bl _) S _ g (.bl _) trivial⟩
    · exact q.elim
  · exact q.elim
noncomputable def semXno (ng : Bool) (i : Nat) (e : En) : R := match e[i]? with
  | some (.x _) => .ok (.v (.bool ng)) e
  | some (.v d) => .ok (.v (.bool (ng != isNo d))) e
  | _ => .st
theorem xno_read (ng : Bool) (i : Nat) (hgi : i ∉ G.gh.map (·.1)) (σ : L2.St) (H : Hp) (Q : VK) (q : tE G (semXno ng i) σ H Q) : tVar i σ H fun x H1 => Q (.bl (cond ng (!decide (x = .non)) (decide (x = .non)))) H1 := by
  obtain ⟨τ, hτ, S, e, rel, lnk, q⟩ := q
  unfold semXno at q
  split at q
  · rename_i x hi
    obtain ⟨a, h1, h2⟩ := rel.exc i x hi
    refine ⟨_, at_base hτ hgi h1, ?_⟩
    have := q (.bl _) S H rel.grow (.bl _) trivial
    cases ng <;> simpa using this
  · rename_i d hi
    obtain ⟨v, h1, h2⟩ := rel.val i _ hi
    refine ⟨_, at_base hτ hgi h1, ?_⟩
    have := q (.bl _) S H rel.grow (.bl _) trivial
    rw [← isNo_ok (S := S) (H := H) (.inl h2)] at this
    show Q (.bl (cond ng (!decide (v = .non)) (decide (v = .non)))) H
    generalize decide (v = .non) = b at *
    cases ng <;> cases b <;> exact this
  · exact q.elim
theorem s_xno {j : Nat} {pos' : Pos} {i : Nat} (hgi : i ∉ G.gh.map (·.1)) (ho : PE X a (tVar i)) : PE X (.Compare a [.Is] [.Constant .none j pos'] pos) (tE G (semXno false i)) ∧ PT X (.Compare a [.Is] [.Constant .none j pos'] pos) (tT G fun e => asT (semXno false i e)) :=
  ⟨PEwk (pe_cmp (pc_isN ho)) fun σ H Q q => xno_read false i hgi σ H Q q, PTwk (pt_cmp (pc_isN ho)) fun σ H Q q => xno_read false i hgi σ H _ (asT_read σ H Q q)⟩
theorem s_xnn {j : Nat} {pos' : Pos} {i : Nat} (hgi : i ∉ G.gh.map (·.1)) (ho : PE X a (tVar i)) : PE X (.Compare a [.IsNot] [.Constant .none j pos'] pos) (tE G (semXno true i)) ∧ PT X (.Compare a [.IsNot] [.Constant .none j pos'] pos) (tT G fun e => asT (semXno true i e)) :=
  ⟨PEwk (pe_cmp (pc_notN ho)) fun σ H Q q => xno_read true i hgi σ H Q q, PTwk (pt_cmp (pc_notN ho)) fun σ H Q q => xno_read true i hgi σ H _ (asT_read σ H Q q)⟩
noncomputable def semXfl (i : Nat) (cs : List Nat) (e : En) : R := match e[i]? with
  | some (.x x) => if x.c ∈ cs then (match x.f with
    | some d => .ok (.v d) e
    | none => .st) else .st
  | _ => .st
theorem s_xfl (F : Fit X c G Φ) {y : Str} {q2 : Pos} {f : Str} {i : Nat} {cs : List Nat} (hgi : i ∉ G.gh.map (·.1)) (ho : PE X (.Name y q2) (tVar i)) (hcs : ∀ k ∈ cs, ∃ z, c.xs.lookup z = some ⟨k, some f⟩) : PE X (.Attribute (.Name y q2) f pos) (tE G (semXfl i cs)) := by
  refine ⟨fun pins s σ H Q I ⟨τ, hτ, S, e, rel, lnk, q⟩ => ?_⟩
  unfold semXfl at q
  split at q
  · rename_i x hi
    split at q
    · rename_i hc
      split at q
      · rename_i dv hf
        obtain ⟨a, h1, h2⟩ := rel.exc i x hi
        refine attr_of (by rfl) (thn (ho.run pins s σ H (fun z H1 => z = .ref a ∧ H = H1) I ⟨_, at_base hτ hgi h1, rfl, rfl⟩) fun u s1 ⟨z, H1, I1, rz, ez, eH⟩ => ?_)
        subst ez eH
        cases (show u = Value.ref a from rz)
        obtain ⟨y1, yi, C, d, hy, hid, gy, ha, t, hm⟩ := h2.at F
        obtain ⟨z, hz⟩ := hcs _ hc
        have : y1 = z := F.xs.ids _ _ _ _ hy hz hid
        subst this
        rw [hz] at hy
        cases hy
        rw [hf] at hm
        obtain ⟨dd, fv, rfl, hdd, hp⟩ := (show ∃ dd v, d = some dd ∧ H dd = some (.xd [(f, v)]) ∧ Rp X.K S v _ from hm)
        obtain ⟨C2, E⟩ := F.xs.ent _ _ hz
        have gC := E.gC
        rw [gy] at gC; cases gC
        obtain ⟨fI, fd, T, iC, tI, noF, hd, F1, hb⟩ := (show ∃ (fI : Addr) (fd : FuncData), OexC X.K C ∧ PySem.W.findIn X.K (.ref C) "__init__" = some (some (.ref fI)) ∧ PySem.W.typeIn X.K (.ref fI) = some (.type "function") ∧ PySem.W.findIn X.K (.ref C) f = some none ∧ PySem.W.hasDictIn X.K C = true ∧
          FnOk X.prog X.w X.K X.mg X.base (L2.CX X.prog X.w) 1 fI fd ["self", f] (spI C f) ∧ Binds X.K fd ["self", f] [] from E.how)
        obtain ⟨oe, od, J, hod⟩ := inst_at I1 ha (.inr ⟨dd, _, rfl, hdd⟩)
        obtain ⟨o, rfl, ho⟩ := hod dd rfl
        have hox : ObjOk X.prog X.w H s1.heap dd (.xd [(f, fv)]) := I1.hok dd _ hdd
        obtain ⟨mA, hns, hr⟩ := hox
        obtain ⟨od2, ho2, hl⟩ := lookIn_ns hns
        rw [ho] at ho2; cases ho2
        have l : List.lookup f [(f, fv)] = some fv := by simp [List.lookup]
        obtain ⟨u, hu, ru⟩ := RelO.some_of (v := fv) (o := mA f) (by rw [← l]; exact hr f)
        exact HandSPX.exc_get I1.kIn J t.ga t.gg t.exC (PySem.W.findObj_own hd noF rfl (by rw [hl, hu])) (handed_of ru) ⟨fv, H, I1.tok _, ru, q fv S H rel.grow (by rw [F.K] at hp; exact hp) trivial⟩
      · exact q.elim
    · exact q.elim
  · exact q.elim
end
end Vc
end
section
set_option Elab.async false
set_option linter.all false
namespace Vc
open PySem PySem.Spec PyProof.Rows L2
variable [XrC]
/-- o.m(..): the method is looked up ahead of the arguments -/
theorem meth_any {M : Model} {A : Around} {E : Value → Shared → Prop} {s : Shared} {env : Env} {o : Expr} {m : Str} {apos pos : Pos} {args : List Expr} {kws : List Keyword} {Q : Value → Shared → Prop}
    (hbase : attributeBase o m env (eval o env) = eval o env) (hform : methodCallForm (args.length + kws.length) (backTo pos (starEach args env)) (backToKw pos (keywordEach kws env)) = true) (hline : (apos.endLine == pos.line) = true)
    (h : wpAny M A (eval o env) (fun ov s1 => ∀ pl, wpAny M A (getMethod ov m pl) (fun fx s2 => wpAny M A (callWith pos fx.1 fx.2 (backTo pos (starEach args env)) (backToKw pos (keywordEach kws env))) Q E s2) E s1) E s) :
    wpAny M A (eval (.Call (.Attribute o m apos) args kws pos) env) Q E s := by
  rw [arm_eval_Call, hbase]
  refine wpAny_bind (wpAny_mono h (fun ov s1 h1 => ?_) fun _ _ x => x)
  refine wpAny_bind (wpAny_standAt ?_)
  have hpos : methodCallPos true o env apos pos = pure pos := by unfold methodCallPos; simp [hline]
  unfold methodCall
  rw [hform, hpos]
  refine wpAny_bind (wpAny_holding ?_)
  exact wpAny_mono (h1 _) (fun fx s2 h2 => wpAny_bind (wpAny_pure h2)) fun _ _ x => x
section
variable {K : Fg} {S S1 H H1 : Hp} {σ : L2.St} {e e1 : En}
theorem callV_G {Φ : Ph} {fn : Nat} {ms : List Md} {rs : List RV} {xs : List V} (g : Grow K S H σ e S1 H1 σ e1) (p : RepRs K S1 H1 σ e1 rs xs) (fr : FrsA H σ e rs xs) (ne : callV Φ fn ms rs e1 ≠ .st) :
    ∃ S2 as, Sub S1 S2 ∧ Rel K S2 H1 (xs.map some) (as.map slOf) ∧ xs.length = ms.length ∧ match Φ fn as with
      | .st => False
      | .rt cv fs => ∃ rv e', callV Φ fn ms rs e1 = .ok rv e' ∧ ∀ x S' H', Grow K S2 H1 (xs.map some) (as.map slOf) S' H' (xs.map some) fs → ResR K H1 S' H' xs as cv x → Grow K S H σ e S' H' σ e' ∧ RepR K S' H' σ e' rv x ∧ Frs H σ e rv x
      | .ex xn fs => ∃ e', callV Φ fn ms rs e1 = .ex xn e' ∧ ∀ S' H', Grow K S2 H1 (xs.map some) (as.map slOf) S' H' (xs.map some) fs → Grow K S H σ e S' H' σ e' := by
  revert ne
  unfold callV
  split
  · exact fun ne => absurd rfl ne
  · rename_i rs1 e2 hp
    obtain ⟨S2, g2, s2, p2, f2, _, _⟩ := prep_ok g p fr hp
    split
    · exact fun ne => absurd rfl ne
    · rename_i as ha
      split
      · rename_i hn
        have hn := of_decide_eq_true hn
        intro ne
        refine ⟨S2, as, s2, args_rel g2.rel p2 ha hn, by rw [← p2.length, (avs_len ha).2], ?_⟩
        revert ne
        cases hΦ : Φ fn as with
        | st => exact fun ne => absurd rfl ne
        | rt cv fs =>
          intro ne
          simp only at ne ⊢
          split at ne
          · rename_i hf
            cases hb : backR rs1 fs cv with
            | none => rw [hb] at ne; exact absurd rfl ne
            | some r =>
              refine ⟨r, putB ms rs1 fs e2, by rw [if_pos hf]; rfl, fun x S' H' c hr => ?_⟩
              obtain ⟨q1, q2⟩ := call_res g2 p2 f2 ha hn hf c hr hb
              exact ⟨call_back g2 p2 f2 ha hn hf c, q1, q2⟩
          · exact absurd rfl ne
        | ex xn fs =>
          intro ne
          simp only at ne ⊢
          split at ne
          · rename_i hf
            exact ⟨putB ms rs1 fs e2, by rw [if_pos hf], fun S' H' c => call_back g2 p2 f2 ha hn hf c⟩
          · exact absurd rfl ne
      · exact fun ne => absurd rfl ne
end
def exsLen : Exs → Nat
  | .nil => 0
  | .cons _ r => exsLen r + 1
theorem evL_len {Φ : Ph} {ms : Nat → List Md} : ∀ {es : Exs} {e e1 : En} {rs : List RV}, evL Φ ms es e = .ok rs e1 → rs.length = exsLen es
  | .nil, e, e1, rs, h => by rw [evL] at h; cases h; rfl
  | .cons a r, e, e1, rs, h => by
    rw [evL] at h
    split at h
    · cases h
    · cases h
    · split at h
      · cases h
      · cases h
      · rename_i h2
        cases h
        simp [exsLen, evL_len h2]
/-- the slot of an object that is named -/
def isObj : Option Ex → Option Nat
  | some (.obj i _) => some i
  | _ => none
def exAt : Exs → Nat → Option Ex
  | .nil, _ => none
  | .cons a _, 0 => some a
  | .cons _ r, k + 1 => exAt r k
/-- the expressions in the parameters' order -/
def qEs (w : Nat) (es : Exs) : Option Exs := if w = 4 ∨ w = 5 then (match es with
    | .cons x (.cons o .nil) => some (.cons o (.cons x .nil))
    | _ => none) else some es
theorem evL_at {Φ : Ph} {ms : Nat → List Md} : ∀ {es : Exs} {e e1 : En} {rs : List RV} {k i : Nat}, evL Φ ms es e = .ok rs e1 → isObj (exAt es k) = some i → rs[k]? = some (.b i)
  | .nil, _, _, _, _, _, _, h => by cases h
  | .cons a r, e, e1, rs, k, i, h, q => by
    rw [evL] at h
    split at h
    · cases h
    · cases h
    · rename_i x e2 hx
      split at h
      · cases h
      · cases h
      · rename_i xs e3 hr
        cases h
        cases k with
        | zero =>
          cases a <;> simp [exAt, isObj] at q
          subst q
          rw [evE] at hx
          split at hx <;> first | (cases hx; rfl) | cases hx
        | succ k => simpa using evL_at hr (by simpa [exAt] using q)
/-- the attributes' slots that are handed belong to the objects that are handed -/
def gAl (gh : List (Nat × Nat × Str × Str)) (es : Exs) : List Nat → List (Nat × Nat × Str × Str) → Bool
  | [], [] => true
  | g :: gs, q :: qs => (match isObj (exAt es q.2.1) with
    | some i => gh.contains (g, i, q.2.2.1, q.2.2.2)
    | none => false) && gAl gh es gs qs
  | _, _ => false
theorem gAl_ok {gh : List (Nat × Nat × Str × Str)} {es : Exs} : ∀ {gs : List Nat} {qs : List (Nat × Nat × Str × Str)}, gAl gh es gs qs = true → gs.length = qs.length ∧ ∀ (k : Nat) (q : Nat × Nat × Str × Str) (g : Nat), qs[k]? = some q → gs[k]? = some g → ∃ i, isObj (exAt es q.2.1) = some i ∧ (g, i, q.2.2.1, q.2.2.2) ∈ gh
  | [], [], _ => ⟨rfl, fun k q g h => by simp at h⟩
  | [], _ :: _, h => by simp [gAl] at h
  | _ :: _, [], h => by simp [gAl] at h
  | g :: gs, q :: qs, h => by
    simp only [gAl, Bool.and_eq_true] at h
    obtain ⟨l, k⟩ := gAl_ok h.2
    refine ⟨by simp [l], fun n q' g' h1 h2 => ?_⟩
    cases n with
    | zero =>
      simp at h1 h2; subst h1 h2
      have h3 := h.1
      split at h3
      · rename_i i hi
        exact ⟨i, hi, by simpa using h3⟩
      · cases h3
    | succ n => exact k n q' g' (by simpa using h1) (by simpa using h2)
theorem allO_ok {e : En} : ∀ {gs : List Nat}, allO e gs = true → ∀ g ∈ gs, ∃ ds, e[g]? = some (.o ds)
  | [], _, g, h => by simp at h
  | i :: r, h, g, hg => by
    simp only [allO] at h
    split at h
    · rename_i ds hi
      rcases List.mem_cons.mp hg with z | z
      · subst z; exact ⟨ds, hi⟩
      · exact allO_ok h g z
    · cases h
section
variable {X : Cx} {G : Gx} {a b : Expr} {es : List Expr} {pos : Pos} {f g h : En → R}
/-- the values of the slots that are handed -/
theorem gs_vals {K : Fg} {S H : Hp} {τ : L2.St} {e : En} (q : Rel K S H τ e) : ∀ {gs : List Nat}, allO e gs = true → ∃ gv : List V, RepRs K S H τ e (gs.map .b) gv ∧ (∀ (H0 : Hp) (e0 : En), FrsA H0 τ e0 (gs.map .b) gv) ∧ gv.length = gs.length ∧ ∀ (k : Nat) (g : Nat) (v : V), gs[k]? = some g → gv[k]? = some v → τ[g]? = some (some v)
  | [], _ => ⟨[], .nil, fun _ _ => .nil, rfl, fun k g v h => by simp at h⟩
  | i :: r, h => by
    have h' := h
    simp only [allO] at h'
    split at h'
    · rename_i ds hi
      obtain ⟨gv, p, f, l, k⟩ := gs_vals q h'
      obtain ⟨a, xs, e1, _⟩ := q.own i ds hi
      refine ⟨.ref a :: gv, .cons e1 (fun _ z => by cases z) p, fun H0 e0 => .cons trivial (f H0 e0), by simp [l], fun n g v h1 h2 => ?_⟩
      cases n with
      | zero => simp at h1 h2; subst h1 h2; exact e1
      | succ n => exact k n g v (by simpa using h1) (by simpa using h2)
    · cases h'
def qVals (w : Nat) (xs : List V) : Option (List V) := if w = 4 ∨ w = 5 then (match xs with
    | [x, o] => some [o, x]
    | _ => none) else some xs
/-- what is wanted of a def's answer -/
def qPost (w : Nat) (Q : VK) : VK := fun x H => match w with
  | 0 => Q x H
  | 1 => Q x H
  | 6 => Q x H
  | 2 => Q x H
  | 3 => ∃ n : Int, x = .int n ∧ (0 ≤ n ∧ n < 2 ^ 63) ∧ Q (.int n) H
  | 4 => ∃ b, x = .bl b ∧ Q (.bl b) H
  | 5 => ∃ b, x = .bl b ∧ Q (.bl (!b)) H
  | _ => False
def qExc (w : Nat) (E : XK) : XK := fun cls d H => (w = 0 ∨ w = 1 ∨ w = 6) ∧ E cls d H
theorem fin_read {S H : Hp} {τ : L2.St} {e : En} {Q : VK} {w : Nat} {r : R} (k : PR G S H τ e Q (qFin w r)) : r ≠ .st ∧ (∀ rv e', r = .ok rv e' → ∀ x S' H', Grow G.K S H τ e S' H' τ e' → RepR G.K S' H' τ e' rv x → Frs H τ e rv x → qPost w Q x H') ∧
    (∀ xn e', r = .ex xn e' → ∀ cls d S' H', Grow G.K S H τ e S' H' τ e' → G.xr S' H' xn cls d → qExc w (fun cls d H' => G.W cls d (base G τ) H') cls d H') := by
  unfold qFin at k
  split at k
  · exact ⟨fun z => by subst z; exact k, fun rv e' z x S' H' g p f => by subst z; exact k x S' H' g p f, fun xn e' z cls d S' H' g q => by subst z; exact ⟨.inl rfl, k cls d S' H' g q⟩⟩
  · exact ⟨fun z => by subst z; exact k, fun rv e' z x S' H' g p f => by subst z; exact k x S' H' g p f, fun xn e' z cls d S' H' g q => by subst z; exact ⟨.inr (.inl rfl), k cls d S' H' g q⟩⟩
  · exact ⟨fun z => by subst z; exact k, fun rv e' z x S' H' g p f => by subst z; exact k x S' H' g p f, fun xn e' z cls d S' H' g q => by subst z; exact ⟨.inr (.inr rfl), k cls d S' H' g q⟩⟩
  · exact ⟨fun z => by subst z; exact k, fun rv e' z x S' H' g p f => by subst z; exact k x S' H' g p f, fun xn e' z => by subst z; exact k.elim⟩
  · refine ⟨fun z => by subst z; exact k, fun rv e' z x S' H' g p f => ?_, fun xn e' z => by subst z; exact k.elim⟩
    subst z
    split at k
    · rename_i n e2 hz
      cases hz
      split at k
      · rename_i hn
        cases p
        exact ⟨n, rfl, cd_iff.mp hn, k _ S' H' g (.int _) trivial⟩
      · exact k.elim
    · exact k.elim
  · refine ⟨fun z => by subst z; exact k, fun rv e' z x S' H' g p f => ?_, fun xn e' z => by subst z; exact k.elim⟩
    subst z
    split at k
    · rename_i n e2 hz
      cases hz
      cases p
      exact ⟨n, rfl, k _ S' H' g (.bl _) trivial⟩
    · exact k.elim
  · refine ⟨fun z => by subst z; exact k, fun rv e' z x S' H' g p f => ?_, fun xn e' z => by subst z; exact k.elim⟩
    subst z
    split at k
    · rename_i n e2 hz
      cases hz
      cases p
      exact ⟨n, rfl, k _ S' H' g (.bl _) trivial⟩
    · exact k.elim
  · exact k.elim
noncomputable def semQ (Φ : Ph) (w f : Nat) (ms : List Md) (gs : List Nat) (rs : List RV) (e1 : En) : R := if allO e1 gs = true then (match qArgs w rs with
    | some rs1 => qFin w (callV Φ f ms (rs1 ++ gs.map .b) e1)
    | none => .st) else .st
/-- what a call wants -/
theorem callQ_read {Φ : Ph} {fn w : Nat} {ms : List Md} {gs : List Nat} {gq : List (Nat × Nat × Str × Str)} {S S1 H H1 : Hp} {τ : L2.St} {e e1 : En} {Q : VK} {rs : List RV} {xs : List V} {as es : Exs} (lnk : Lk G τ S) (hes : qEs w as = some es) (hal : gAl G.gh es gs gq = true)
    (hgq : gq.map (·.1) = List.range' (exsLen es) gq.length) (hob : ∀ k i, isObj (exAt as k) = some i → rs[k]? = some (.b i)) (hl : rs.length = exsLen as) (hw : w = 4 ∨ w = 5 → ∃ x i j, as = .cons x (.cons (.obj i j) .nil))
    (g : Grow G.K S H τ e S1 H1 τ e1) (p : RepRs G.K S1 H1 τ e1 rs xs) (fr : FrsA H τ e rs xs) (k : PR G S H τ e Q (semQ Φ w fn ms gs rs e1)) :
    ∃ vs, qVals w xs = some vs ∧ vs.length = exsLen es ∧ ms.length = vs.length + gs.length ∧ rCallQ G.K G.mg G.fl G.xr gq Φ fn vs H1 (qPost w Q) (qExc w (fun cls d H' => G.W cls d (base G τ) H')) := by
  unfold semQ at k
  split at k
  · rename_i ho
    -- in the parameters' order
    obtain ⟨rs1, vs, h1, h2, p1, f1, ob1, l1⟩ : ∃ rs1 vs, qArgs w rs = some rs1 ∧ qVals w xs = some vs ∧ RepRs G.K S1 H1 τ e1 rs1 vs ∧ FrsA H τ e rs1 vs ∧ (∀ k i, isObj (exAt es k) = some i → rs1[k]? = some (.b i)) ∧ rs1.length = exsLen es := by
      by_cases hc : w = 4 ∨ w = 5
      · obtain ⟨x, i, j, rfl⟩ := hw hc
        unfold qEs at hes
        rw [if_pos hc] at hes
        cases hes
        have hb := hob 1 i rfl
        have hrs : rs.length = 2 := by simpa [exsLen] using hl
        match rs, hrs with
        | [r0, r1], _ =>
          simp at hb; subst hb
          cases p with
          | cons a n t =>
            cases t with
            | cons a2 n2 t2 =>
              cases t2
              cases fr with
              | cons f f' =>
                cases f' with
                | cons f2 f3 =>
                  rename_i y z
                  refine ⟨[.b i, r0], [z, y], by unfold qArgs; rw [if_pos hc], by unfold qVals; rw [if_pos hc], .cons a2 (fun _ z => by cases z) (.cons a (fun ds _ j es h => by simp at h) .nil), .cons f2 (.cons f .nil), fun k i' h => ?_, rfl⟩
                  cases k with
                  | zero => simpa [exAt, isObj] using h
                  | succ k =>
                    cases k with
                    | zero =>
                      have := hob 0 i' (by simpa [exAt] using h)
                      simpa using this
                    | succ k => simp [exAt, isObj] at h
      · unfold qEs at hes
        rw [if_neg hc] at hes
        cases hes
        exact ⟨rs, xs, by unfold qArgs; rw [if_neg hc], by unfold qVals; rw [if_neg hc], p, fr, hob, hl⟩
    rw [h1] at k
    simp only at k
    obtain ⟨gv, pg, fg, lg, vg⟩ := gs_vals g.rel ho
    obtain ⟨ne, kok, kex⟩ := fin_read k
    have pa := p1.append pg fun i ds x _ _ j es' hj _ => by
      rw [List.getElem?_map] at hj
      obtain ⟨_, _, z⟩ := Option.map_eq_some_iff.mp hj
      cases z
    have fa := f1.append (fg H e)
    obtain ⟨S2, as2, s2, rel2, len2, q2⟩ := callV_G g pa fa ne
    obtain ⟨lgq, al⟩ := gAl_ok hal
    have lvs : vs.length = exsLen es := by rw [← p1.length, l1]
    refine ⟨vs, h2, lvs, by rw [← len2, List.length_append, lg], S2, as2, gv, by rw [lg, lgq], ?_, rel2, ?_⟩
    · intro q hq v hv
      obtain ⟨n, hn⟩ := List.mem_iff_getElem?.mp hq
      have hn1 : n < gq.length := (List.getElem?_eq_some_iff.mp hn).1
      have e1 : q.1 = vs.length + n := by
        have z : (gq.map (·.1))[n]? = some q.1 := by rw [List.getElem?_map, hn]; rfl
        rw [hgq, List.getElem?_range' hn1] at z
        simp at z
        omega
      have hv := some_get.mp hv
      rw [e1, List.getElem?_append_right (by omega)] at hv
      have hv : gv[n]? = some v := by simpa using hv
      have hgn : gs[n]? = some (gs[n]'(by omega)) := List.getElem?_eq_getElem (by omega)
      obtain ⟨i, hi, hm⟩ := al n q _ hn hgn
      have hτ := vg n _ v hgn hv
      obtain ⟨pp, C, dx, fs, a1, a2, a3, a4, a5⟩ := lnk _ hm v hτ
      refine ⟨pp, C, dx, fs, a1, ?_, s2 _ _ (g.sub _ _ a3), a4, a5⟩
      obtain ⟨x, x1, x2⟩ := p1.get (ob1 _ _ hi)
      have x2 : τ[i]? = some (some x) := x2
      simp only at a2
      rw [a2] at x2; cases x2
      have hlt : q.2.1 < vs.length := (List.getElem?_eq_some_iff.mp x1).1
      exact some_get.mpr (by rw [List.getElem?_append_left hlt]; exact x1)
    · revert q2
      cases Φ fn as2 with
      | st => exact id
      | rt cv fs =>
        rintro ⟨rv, e', hr, q⟩ x S' H' c hres
        obtain ⟨c1, c2, c3⟩ := q x S' H' c hres
        exact kok rv e' hr x S' H' c1 c2 c3
      | ex xn fs =>
        rintro ⟨e', hr, q⟩ cls d S' H' c hx
        exact kex xn e' hr cls d S' H' (q S' H' c) hx
  · exact k.elim
end
end Vc
end
section
set_option Elab.async false
set_option linter.all false
namespace Vc
open PySem PySem.Spec PyProof.Rows L2
variable [XrC]
section
variable {X : Cx} {c : Cc} {G : Gx} {Φ : Ph} {a b o : Expr} {es : List Expr} {pos : Pos}
theorem rCallQ.mono {K : Fg} {mg : Str → Option Value} {fl : Str → List Str} {xr : Hp → Hp → Xn → Value → Option Addr → Prop} {gq : List (Nat × Nat × Str × Str)} {f : Nat} {vs : List V} {H : Hp} {Q : VK} {E E' : XK} (h : rCallQ K mg fl xr gq Φ f vs H Q E) (k : ∀ cls d H', E cls d H' → E' cls d H') :
    rCallQ K mg fl xr gq Φ f vs H Q E' := by
  obtain ⟨S, as, gs, h1, h2, h3, h4⟩ := h
  refine ⟨S, as, gs, h1, h2, h3, ?_⟩
  revert h4
  cases Φ f as with
  | st => exact id
  | rt r fs => exact id
  | ex xn fs => exact fun h4 cls d S' H' g q => k _ _ _ (h4 cls d S' H' g q)
/-- a def that takes objects runs -/
theorem runQ_ok (F : Fit X c G Φ) {n : QN} {f : Nat} (hx : (n, f) ∈ c.qd) : ∃ fa, QAt X.K X.mg n fa ∧ PySem.W.keepIn X.K (.ref fa) = true ∧
    (∀ (pins : List (Addr × Obj)) (s : Shared) (σ : L2.St) (H : Hp) (us us' : List Value) (kw : List (Str × Value)) (vs : List V) (Q : VK), L2.Inv X pins σ H s → (kw.map (·.1)).Nodup → (∀ y ∈ kw.map (·.1), y ∈ (c.ps f).drop us.length) →
      us'.length = (c.ps f).length → kwSel (c.ps f) us kw = some us' → Vals vs us' → rCallQ G.K G.mg G.fl G.xr (c.gq f) Φ f vs H Q (fun cls d H' => G.W cls d σ H') →
      wpAny (model X.prog X.w) X.A (call (.ref fa) us kw) (EP X pins σ Q) X.xe s) ∧
    (∀ (A : Around), A = X.A ∨ A = X.A.in1 → ∀ (pins : List (Addr × Obj)) (s : Shared) (σ : L2.St) (H : Hp) (us : List Value) (vs : List V) (Q : VK), L2.Inv X pins σ H s → us.length = (c.ps f).length → Vals vs us → rCallQ G.K G.mg G.fl G.xr (c.gq f) Φ f vs H Q (fun _ _ _ => False) →
      codeAny (model X.prog X.w) A (.call (.ref fa) ⟨us, []⟩) (fun r s' => match r with | .ok (.ret u) => EP X pins σ Q u s' | _ => False) s) := by
  obtain ⟨fa, k, h1, h2, h3⟩ := F.fq n f hx
  refine ⟨fa, h1, h3.keep, fun pins s σ H us us' kw vs Q I n1 n2 n3 n4 r q => ?_, fun A hA pins s σ H us vs Q I hl r q => ?_⟩
  · rw [← F.K, F.gm] at q
    refine wpAny_call (codeAny_mono (h3.run X.A X.stack s H us us' kw vs Q _ (h2.mono (Nat.le_succ _)) F.gd I.env0 n1 n2 n3 n4 r q) fun r s' hq => ?_)
    cases r with
    | error e => exact F.tk e s' (XE.of_call I (fun _ _ _ h => h) hq)
    | ok fl =>
      cases fl with
      | ret u => exact I.after hq
      | next => exact False.elim hq
      | brk => exact False.elim hq
      | cont => exact False.elim hq
  · rw [← F.K, F.gm] at q
    have hr : Room k A := by
      rcases hA with rfl | rfl
      · exact h2.mono (Nat.le_succ _)
      · exact h2.in1
    have hg : A.guards = some [] := by
      rcases hA with rfl | rfl
      · exact F.gd
      · exact F.gd
    have he : Env0 X.prog X.w X.K X.mg X.base A X.stack s H := by
      rcases hA with rfl | rfl
      · exact I.env0
      · exact I.env0.in1
    refine codeAny_mono (h3.run A X.stack s H us us [] vs Q _ hr hg he List.nodup_nil (fun y hy => absurd hy (by simp)) hl (kwSel_all hl) r q) fun r s' hq => ?_
    cases r with
    | error e =>
      obtain ⟨_, _, _, _, _, _, _, _, _, _, _, _, z⟩ := hq
      exact z
    | ok fl =>
      cases fl with
      | ret u => exact I.after hq
      | next => exact False.elim hq
      | brk => exact False.elim hq
      | cont => exact False.elim hq
/-- the object whose attribute's slot is known -/
theorem obj_at {S H : Hp} {τ : L2.St} {e : En} (rel : Rel G.K S H τ e) (lnk : Lk G τ S) {j i : Nat} {x cn : Str} (hq : (j, i, x, cn) ∈ G.gh) (he : (∃ d, e[j]? = some (.v d)) ∨ ∃ ds, e[j]? = some (.o ds)) :
    ∃ p C dx fs v, τ[j]? = some (some v) ∧ G.mg cn = some (.ref C) ∧ τ[i]? = some (some (.ref p)) ∧ S p = some (.ins C dx fs) ∧ fs.lookup x = some v ∧ fs.map (·.1) = G.fl cn := by
  obtain ⟨v, hv⟩ : ∃ v, τ[j]? = some (some v) := by
    rcases he with ⟨d, h⟩ | ⟨ds, h⟩
    · obtain ⟨v, h1, _⟩ := rel.val j d h; exact ⟨v, h1⟩
    · obtain ⟨p, _, h1, _⟩ := rel.own j ds h; exact ⟨_, h1⟩
  obtain ⟨p, C, dx, fs, h1, h2, h3, h4, h5⟩ := lnk _ hq v hv
  exact ⟨p, C, dx, fs, v, hv, h1, h2, h3, h4, h5⟩
theorem no_look {fs : List (Str × V)} {l : List Str} {m : Str} (h : fs.map (·.1) = l) (n : m ∉ l) : fs.lookup m = none := by
  rw [List.lookup_eq_none_iff]
  intro q hq
  have : q.1 ∈ l := by rw [← h]; exact List.mem_map_of_mem hq
  simp only [beq_iff_eq, bne_iff_ne, ne_eq, Bool.not_eq_true', beq_eq_false_iff_ne]
  exact fun z => n (z ▸ this)
/-- o, an object -/
theorem s_obj (F : Fit X c G Φ) {i j : Nat} {x cn : Str} (hn : nameIs c i o = true) (ho : PE X o (tVar i)) (hq : (j, i, x, cn) ∈ c.gh) : PE X o (tE G (evE Φ c.md (.obj i j))) := by
  refine PEwk ho fun σ H Q ⟨τ, hτ, S, e, rel, lnk, k⟩ => ?_
  rw [← F.gh] at hq
  rw [evE] at k
  have fin : ∀ {e' : En}, ((∃ d, e[j]? = some (.v d)) ∨ ∃ ds, e[j]? = some (.o ds)) → PR G S H τ e Q (.ok (.b i) e) → tVar i σ H Q := by
    intro _ he k
    obtain ⟨p, C, dx, fs, v, h0, h1, h2, h3, h4, h5⟩ := obj_at rel lnk hq he
    exact ⟨.ref p, at_base hτ (F.ghB (name_gh hn)) h2, k _ S H rel.grow h2 trivial⟩
  split at k
  · rename_i d he; exact fin (e' := e) (.inl ⟨d, he⟩) k
  · rename_i d he; exact fin (e' := e) (.inr ⟨d, he⟩) k
  · exact k.elim
/-- o.x, an attribute -/
theorem s_atr (F : Fit X c G Φ) {i j : Nat} {x cn : Str} (hn : nameIs c i o = true) (ho : PE X o (tVar i)) (hb : plainB o = true) (hq : (j, i, x, cn) ∈ c.gh) (hx : x ∈ c.fl cn) : PE X (.Attribute o x pos) (tE G (evE Φ c.md (.atr j i x))) := by
  refine PEwk (pe_fld ho (plain_base hb)) fun σ H Q ⟨τ, hτ, S, e, rel, lnk, k⟩ => ?_
  rw [← F.gh] at hq
  rw [evE] at k
  have hci : ∃ fs, c.ci.lookup cn = some fs ∧ x ∈ fs := by
    unfold Cc.fl at hx
    cases h : c.ci.lookup cn with
    | none => rw [h] at hx; simp at hx
    | some fs => rw [h] at hx; exact ⟨fs, rfl, hx⟩
  obtain ⟨fs0, hc1, hc2⟩ := hci
  obtain ⟨C0, k0, _, cl⟩ := F.ci cn fs0 hc1
  have fin : ((∃ d, e[j]? = some (.v d)) ∨ ∃ ds, e[j]? = some (.o ds)) → (∀ v, τ[j]? = some (some v) → Q v H) → tFld X.K (tVar i) x σ H Q := by
    intro he k
    obtain ⟨p, C, dx, fs, v, h0, h1, h2, h3, h4, h5⟩ := obj_at rel lnk hq he
    have hC : C = C0 := by
      have := cl.at_
      rw [← F.gm, h1] at this
      injection this with z; injection z
    subst hC
    exact ⟨.ref p, at_base hτ (F.ghB (name_gh hn)) h2, p, C, dx, fs, v, rfl, rel.sub _ _ h3, cl.cl, cl.na x hc2, h4, k v h0⟩
  split at k
  · rename_i d he
    refine fin (.inl ⟨d, he⟩) fun v hv => ?_
    obtain ⟨v', h1, h2⟩ := rel.val j d he
    rw [hv] at h1; cases h1
    exact k _ S H rel.grow h2 trivial
  · rename_i d he
    exact fin (.inr ⟨d, he⟩) fun v hv => k _ S H rel.grow hv trivial
  · exact k.elim
def qSwap (w : Nat) (as : Exs) : Bool := if w = 4 ∨ w = 5 then (match as with
    | .cons _ (.cons (.obj _ _) .nil) => true
    | _ => false) else true
def qOk (c : Cc) (w f : Nat) (as : Exs) (gs : List Nat) : Bool := (match qEs w as with
    | some es => gAl c.gh es gs (c.gq f) && decide ((c.gq f).map (·.1) = List.range' (exsLen es) (c.gq f).length ∧ (c.ps f).length = exsLen es)
    | none => false) && qSwap w as
/-- what a call wants, by the check -/
theorem qOk_read (F : Fit X c G Φ) {w f : Nat} {as : Exs} {gs : List Nat} (h : qOk c w f as gs = true) {S S1 H H1 : Hp} {τ : L2.St} {e e1 : En} {Q : VK} {rs : List RV} {xs : List V} (lnk : Lk G τ S) {e0 : En} (her : evL Φ c.md as e0 = .ok rs e1)
    (g : Grow G.K S H τ e S1 H1 τ e1) (p : RepRs G.K S1 H1 τ e1 rs xs) (fr : FrsA H τ e rs xs) (k : PR G S H τ e Q (semQ Φ w f (c.md f) gs rs e1)) :
    ∃ vs, qVals w xs = some vs ∧ vs.length = (c.ps f).length ∧ rCallQ G.K G.mg G.fl G.xr (c.gq f) Φ f vs H1 (qPost w Q) (qExc w (fun cls d H' => G.W cls d (base G τ) H')) := by
  obtain ⟨h1, h2⟩ := Bool.and_eq_true_iff.mp h
  split at h1
  · rename_i es hes
    obtain ⟨h3, h4⟩ := Bool.and_eq_true_iff.mp h1
    obtain ⟨h4, h5⟩ := of_decide_eq_true h4
    rw [← F.gh] at h3
    obtain ⟨vs, q1, q2, _, q3⟩ := callQ_read lnk hes h3 h4 (fun k i hk => evL_at her hk) (evL_len her) (fun hw => by
      unfold qSwap at h2
      rw [if_pos hw] at h2
      split at h2
      · exact ⟨_, _, _, rfl⟩
      · cases h2) g p fr k
    exact ⟨vs, q1, by rw [q2, h5], q3⟩
  · cases h1
theorem evE_Q {w f : Nat} {as : Exs} {gs : List Nat} {md : Nat → List Md} : evE Φ md (.callQ w f as gs) = fun e => (evL Φ md as e).bd fun rs e1 => semQ Φ w f (md f) gs rs e1 := by
  funext e; rw [evE]; rfl
/-- f(e, ..) -/
theorem s_q0 (F : Fit X c G Φ) {x : Str} {f : Nat} {p : Pos} {as : Exs} {gs : List Nat} (hx : (QN.fn x, f) ∈ c.qd) (hg : Gl X x) (hdb : (x == ("__debug__" : Str)) = false) (hk : qOk c 0 f as gs = true) (hpa : plainX a = true) (hpe : es.all plainX = true)
    (ha : PA X (a :: es) (tL G (evL Φ c.md as))) : PE X (.Call (.Name x p) (a :: es) [] pos) (tE G (evE Φ c.md (.callQ 0 f as gs))) := by
  obtain ⟨fa, h1, h2, run, _⟩ := runQ_ok F hx
  refine ⟨fun pins s σ H Q I ⟨τ, hτ, S, e, rel, lnk, k⟩ => ?_⟩
  subst hτ
  rw [evE_Q] at k
  refine wpAny_Call_Name_kw (ld_glob I hg h1 ?_ hdb)
  refine PySem.W.callWith_K (h₀ := X.base) I.ok.mod.kin h2 (thn (ha.run pos pins s (base G τ) H (fun xs H1 => rCallQ G.K G.mg G.fl G.xr (c.gq f) Φ f xs H1 Q (fun cls d H' => G.W cls d (base G τ) H') ∧ xs.length = (c.ps f).length) I ⟨τ, rfl, S, e, rel, lnk, PL.bd k fun rs e1 xs S1 H1 er g1 p1 f1 k1 => ?_⟩) fun us s1 ⟨vs, H1, I1, r, q⟩ => ⟨I1.kIn, ?_⟩) (star_cons hpa) (star_flags hpe)
  · obtain ⟨vs, q1, q2, q3⟩ := qOk_read F hk lnk er g1 p1 f1 k1
    cases q1
    exact ⟨q3.mono fun _ _ _ z => z.2, q2⟩
  · have hus : us.length = (c.ps f).length := by rw [← r.length, q.2]
    exact run pins s1 (base G τ) H1 us us [] vs Q I1 List.nodup_nil (fun y hy => absurd hy (by simp)) hus (kwSel_all hus) r q.1
theorem evL_ob {md : Nat → List Md} {i j : Nat} {r : Exs} {e : En} {f : List RV → En → R} : (evL Φ md (.cons (.obj i j) r) e).bd f = (match e[j]? with
    | some (.v _) => (evL Φ md r e).bd fun rs e1 => f (.b i :: rs) e1
    | some (.o _) => (evL Φ md r e).bd fun rs e1 => f (.b i :: rs) e1
    | _ => .st) := by
  rw [evL, evE]
  cases he : e[j]? with
  | none => rfl
  | some s => cases s <;> first | rfl | (dsimp only; cases evL Φ md r e <;> rfl)
theorem evL_ob' {md : Nat → List Md} {i j : Nat} {r : Exs} {e e1 : En} {rs : List RV} (he : (∃ d, e[j]? = some (.v d)) ∨ ∃ ds, e[j]? = some (.o ds)) (h : evL Φ md r e = .ok rs e1) : evL Φ md (.cons (.obj i j) r) e = .ok (.b i :: rs) e1 := by
  rw [evL, evE]
  rcases he with ⟨d, he⟩ | ⟨d, he⟩ <;> rw [he] <;> simp only [h]
theorem mapM_range {l : List Value} : (List.range l.length).mapM (fun k => l[k]?) = some l := by
  have : ∀ m ≤ l.length, (List.range m).mapM (fun k => l[k]?) = some (l.take m) := by
    intro m
    induction m with
    | zero => intro _; simp
    | succ m ih =>
      intro hm
      rw [List.range_succ, List.mapM_append, ih (by omega)]
      have hg : l[m]? = some l[m] := List.getElem?_eq_getElem (show m < l.length by omega)
      rw [List.take_add_one, hg]
      simp only [List.mapM_cons, List.mapM_nil, hg]
      rfl
  rw [this _ (Nat.le_refl _), List.take_length]
/-- the object of a method call is known; its class -/
theorem obj_read (F : Fit X c G Φ) {md : Nat → List Md} {i j : Nat} {x cn : Str} {r : Exs} {S H : Hp} {τ : L2.St} {e : En} {Q : VK} {f : List RV → En → R} (rel : Rel G.K S H τ e) (lnk : Lk G τ S) (hq : (j, i, x, cn) ∈ c.gh) (k : PR G S H τ e Q ((evL Φ md (.cons (.obj i j) r) e).bd f)) :
    ((∃ d, e[j]? = some (.v d)) ∨ ∃ ds, e[j]? = some (.o ds)) ∧ PR G S H τ e Q ((evL Φ md r e).bd fun rs e1 => f (.b i :: rs) e1) ∧ ∃ p C dx fs, X.mg cn = some (.ref C) ∧ τ[i]? = some (some (.ref p)) ∧ H p = some (.ins C dx fs) ∧ fs.map (·.1) = c.fl cn ∧ S p = some (.ins C dx fs) := by
  rw [← F.gh] at hq
  rw [evL_ob] at k
  have fin : ((∃ d, e[j]? = some (.v d)) ∨ ∃ ds, e[j]? = some (.o ds)) → ∃ p C dx fs, X.mg cn = some (.ref C) ∧ τ[i]? = some (some (.ref p)) ∧ H p = some (.ins C dx fs) ∧ fs.map (·.1) = c.fl cn ∧ S p = some (.ins C dx fs) := fun he => by
    obtain ⟨p, C, dx, fs, v, h0, h1, h2, h3, h4, h5⟩ := obj_at rel lnk hq he
    exact ⟨p, C, dx, fs, by rw [← F.gm]; exact h1, h2, rel.sub _ _ h3, by rw [← F.fl]; exact h5, h3⟩
  split at k
  · rename_i d he; exact ⟨.inl ⟨d, he⟩, k, fin (.inl ⟨d, he⟩)⟩
  · rename_i d he; exact ⟨.inr ⟨d, he⟩, k, fin (.inr ⟨d, he⟩)⟩
  · exact k.elim
/-- o.m(e, ..) -/
theorem s_q1 (F : Fit X c G Φ) {m x cn : Str} {f i j : Nat} {ap : Pos} {as : Exs} {gs : List Nat} (hx : (QN.mt cn m, f) ∈ c.qd) (hm : m ∉ c.fl cn) (hn : nameIs c i o = true) (ho : PE X o (tVar i)) (hb : plainB o = true) (hq : (j, i, x, cn) ∈ c.gh) (hk : qOk c 1 f (.cons (.obj i j) as) gs = true) (hpe : es.all plainX = true)
    (hlen : es.length < 20) (hli : (ap.endLine == pos.line) = true) (ha : PA X es (tL G (evL Φ c.md as))) (hnil : es = [] → as = .nil) : PE X (.Call (.Attribute o m ap) es [] pos) (tE G (evE Φ c.md (.callQ 1 f (.cons (.obj i j) as) gs))) := by
  obtain ⟨fa, ⟨C0, hC0, cl, mt⟩, h2, run, _⟩ := runQ_ok F hx
  refine ⟨fun pins s σ H Q I ⟨τ, hτ, S, e, rel, lnk, k⟩ => ?_⟩
  subst hτ
  rw [evE_Q] at k
  obtain ⟨he, k, p, C, dx, fs, z1, z2, z3, z4, z5⟩ := obj_read F rel lnk hq k
  rw [hC0] at z1; cases z1
  have hform : methodCallForm (es.length + ([] : List Keyword).length) (backTo pos (starEach es X.env)) (backToKw pos (keywordEach [] X.env)) = true := by
    have := star_len hpe (env := X.env) (p := pos)
    unfold methodCallForm
    simp [keywordEach, backToKw] at this ⊢
    refine ⟨this, by omega⟩
  refine meth_any (plain_base hb) hform hli (thn (ho.run pins s (base G τ) H (fun v H1 => v = .ref p ∧ H1 = H) I ⟨_, at_base rfl (F.ghB (name_gh hn)) z2, rfl, rfl⟩) fun ov s1 ⟨v, H1, I1, rv, ev, eh⟩ pl => ?_)
  subst ev eh
  obtain rfl : ov = Value.ref p := rv
  refine getmeth_ok I1 z3 cl mt (no_look z4 hm) ?_
  have fin : ∀ (us : List Value) (vs : List V) (H2 : Hp) (s2 : Shared), L2.Inv X pins (base G τ) H2 s2 → Vals vs us → rCallQ G.K G.mg G.fl G.xr (c.gq f) Φ f (.ref p :: vs) H2 Q (fun cls d H' => G.W cls d (base G τ) H') → (V.ref p :: vs).length = (c.ps f).length →
      wpAny (model X.prog X.w) X.A (call (.ref fa) ([.ref p] ++ us)) (EP X pins (base G τ) Q) X.xe s2 := fun us vs H2 s2 I2 r q l => by
    have r' : Vals (V.ref p :: vs) (Value.ref p :: us) := .cons rfl r
    have hus : (Value.ref p :: us).length = (c.ps f).length := by rw [← r'.length, l]
    exact run pins s2 (base G τ) H2 _ _ [] _ Q I2 List.nodup_nil (fun y hy => absurd hy (by simp)) hus (kwSel_all hus) r' q
  have read : PL G S H1 τ e (fun xs H2 => rCallQ G.K G.mg G.fl G.xr (c.gq f) Φ f (.ref p :: xs) H2 Q (fun cls d H' => G.W cls d (base G τ) H') ∧ (V.ref p :: xs).length = (c.ps f).length) (evL Φ c.md as e) := PL.bd k fun rs e1 xs S1 H2 er g1 p1 f1 k1 => by
    obtain ⟨vs, q1, q2, q3⟩ := qOk_read F hk lnk (evL_ob' he er) g1 (.cons z2 (fun _ z => by cases z) p1) (.cons trivial f1) k1
    cases q1
    exact ⟨q3.mono fun _ _ _ z => z.2, q2⟩
  cases es with
  | nil =>
    obtain rfl := hnil rfl
    rw [evL] at read
    have q := read [] S H1 rel.grow .nil .nil
    exact PySem.W.callWith_K0 (first := [.ref p]) I1.kIn h2 (fin [] [] H1 s1 I1 .nil q.1 q.2)
  | cons a es' =>
    obtain ⟨hpa, hpe'⟩ := Bool.and_eq_true_iff.mp (show (plainX a && es'.all plainX) = true from hpe)
    refine PySem.W.callWith_K (first := [.ref p]) (h₀ := X.base) I.ok.mod.kin h2 (thn (ha.run pos pins s1 (base G τ) H1 _ I1 ⟨τ, rfl, S, e, rel, lnk, read⟩) fun us s2 ⟨vs, H2, I2, r, q⟩ => ⟨I2.kIn, ?_⟩) (star_cons hpa) (star_flags hpe')
    exact fin us vs H2 s2 I2 r q.1 q.2
/-- o.m(k=e, ..) -/
theorem s_q6 (F : Fit X c G Φ) {m x cn : Str} {f i j : Nat} {ap : Pos} {as : Exs} {gs : List Nat} {kws : List Keyword} {ks : List Str} (hx : (QN.mt cn m, f) ∈ c.qd) (hm : m ∉ c.fl cn) (hn : nameIs c i o = true) (ho : PE X o (tVar i)) (hb : plainB o = true) (hq : (j, i, x, cn) ∈ c.gh) (hk : qOk c 6 f (.cons (.obj i j) as) gs = true)
    (hks : kwNames kws = some ks) (hn1 : ks.Nodup) (hn2 : ∀ y ∈ ks, y ∈ (c.ps f).drop 1) (hsel : kwSel (c.ps f) (List.range 1) (ks.zip (List.range' 1 ks.length)) = some (List.range (ks.length + 1))) (hlen : kws.length < 20) (hne : kws ≠ []) (hla : exsLen as = ks.length)
    (hli : (ap.endLine == pos.line) = true) (ha : PK X kws (tL G (evL Φ c.md as))) : PE X (.Call (.Attribute o m ap) [] kws pos) (tE G (evE Φ c.md (.callQ 6 f (.cons (.obj i j) as) gs))) := by
  obtain ⟨fa, ⟨C0, hC0, cl, mt⟩, h2, run, _⟩ := runQ_ok F hx
  refine ⟨fun pins s σ H Q I ⟨τ, hτ, S, e, rel, lnk, k⟩ => ?_⟩
  subst hτ
  rw [evE_Q] at k
  obtain ⟨he, k, p, C, dx, fs, z1, z2, z3, z4, z5⟩ := obj_read F rel lnk hq k
  rw [hC0] at z1; cases z1
  obtain ⟨n1, n2, n3⟩ := kwNames_ok hks (env := X.env) (p := pos)
  have hform : methodCallForm (([] : List Expr).length + kws.length) (backTo pos (starEach [] X.env)) (backToKw pos (keywordEach kws X.env)) = true := by
    unfold methodCallForm
    rw [n2]
    simp [starEach, backTo]
    split <;> omega
  refine meth_any (plain_base hb) hform hli (thn (ho.run pins s (base G τ) H (fun v H1 => v = .ref p ∧ H1 = H) I ⟨_, at_base rfl (F.ghB (name_gh hn)) z2, rfl, rfl⟩) fun ov s1 ⟨v, H1, I1, rv, ev, eh⟩ pl => ?_)
  subst ev eh
  obtain rfl : ov = Value.ref p := rv
  refine getmeth_ok I1 z3 cl mt (no_look z4 hm) ?_
  have read : PL G S H1 τ e (fun xs H2 => rCallQ G.K G.mg G.fl G.xr (c.gq f) Φ f (.ref p :: xs) H2 Q (fun cls d H' => G.W cls d (base G τ) H') ∧ (V.ref p :: xs).length = (c.ps f).length ∧ xs.length = ks.length) (evL Φ c.md as e) := PL.bd k fun rs e1 xs S1 H2 er g1 p1 f1 k1 => by
    obtain ⟨vs, q1, q2, q3⟩ := qOk_read F hk lnk (evL_ob' he er) g1 (.cons z2 (fun _ z => by cases z) p1) (.cons trivial f1) k1
    cases q1
    exact ⟨q3.mono fun _ _ _ z => z.2, q2, by rw [← p1.length, evL_len er, hla]⟩
  refine PySem.W.callWith_KW0 (first := [.ref p]) (h₀ := X.base) I.ok.mod.kin h2 n2 ?_ (by rw [n3]; rfl)
  refine thn (ha.run pos pins s1 (base G τ) H1 _ I1 ⟨τ, rfl, S, e, rel, lnk, read⟩) fun ws s2 ⟨zs, H2, I2, r, q, l, lz⟩ => ⟨I2.kIn, ?_⟩
  rw [n1]
  have r' : Vals (V.ref p :: zs) (Value.ref p :: ws) := .cons rfl r
  have e2 : ws.length = ks.length := by rw [← r.length, lz]
  have ez : (ks.zip ws).map (·.1) = ks := by rw [List.map_fst_zip (by omega)]
  have hus : (Value.ref p :: ws).length = (c.ps f).length := by rw [← r'.length, l]
  have sel : kwSel (c.ps f) [.ref p] (ks.zip ws) = some (Value.ref p :: ws) := kwSel_nat (n := 1) rfl e2 hsel (by
    have := mapM_range (l := Value.ref p :: ws)
    rw [List.length_cons, e2] at this
    exact this)
  exact run pins s2 (base G τ) H2 [.ref p] _ (ks.zip ws) _ Q I2 (by rw [ez]; exact hn1) (by rw [ez]; exact hn2) hus sel r' q
/-- o.m, a property -/
theorem s_q2 (F : Fit X c G Φ) {m x cn : Str} {f i j : Nat} {gs : List Nat} (hx : (QN.pr cn m, f) ∈ c.qd) (hn : nameIs c i o = true) (ho : PE X o (tVar i)) (hb : plainB o = true) (hq : (j, i, x, cn) ∈ c.gh) (hk : qOk c 2 f (.cons (.obj i j) .nil) gs = true) :
    PE X (.Attribute o m pos) (tE G (evE Φ c.md (.callQ 2 f (.cons (.obj i j) .nil) gs))) := by
  obtain ⟨fa, ⟨C0, pa, hC0, cl, hp⟩, h2, _, run⟩ := runQ_ok F hx
  refine ⟨fun pins s σ H Q I ⟨τ, hτ, S, e, rel, lnk, k⟩ => ?_⟩
  subst hτ
  rw [evE_Q] at k
  obtain ⟨he, k, p, C, dx, fs, z1, z2, z3, z4, z5⟩ := obj_read F rel lnk hq k
  rw [hC0] at z1
  obtain rfl : C0 = C := by injection z1 with z; injection z
  clear z1
  rw [evL] at k
  obtain ⟨vs, q1, q2, q3⟩ := qOk_read F hk lnk (evL_ob' (r := .nil) (rs := []) (e1 := e) he (by rw [evL])) rel.grow (.cons z2 (fun _ z => by cases z) .nil) (.cons trivial .nil) k
  cases q1
  refine attr_of (plain_base hb) (thn (ho.run pins s (base G τ) H (fun v H1 => v = .ref p ∧ H1 = H) I ⟨_, at_base rfl (F.ghB (name_gh hn)) z2, rfl, rfl⟩) fun ov s1 ⟨v, H1, I1, rv, ev, eh⟩ => ?_)
  subst ev eh
  obtain rfl : ov = Value.ref p := rv
  obtain ⟨mA, O, _, _, _, _⟩ := ins_get I1.hok z3
  obtain ⟨od, J, _⟩ := O.look
  obtain ⟨rest, hrec⟩ := hp.rec_
  have I2 := I1.tok (s1.toks + 1)
  have hc : (PySem.W.clsIn X.K C0).isSome = true := by
    obtain ⟨cd, hc, _⟩ := PySem.W.any_some cl.hd
    rw [hc]
    rfl
  refine PySem.W.get_bind I1.kIn J (PySem.W.plainGet_of (cl.get m)).1 (PySem.W.findObj_data hc hp.at_ hp.get hp.tak) (PySem.W.plainGet_of (cl.get m)).2 (wpAny_call (PySem.W.prop_get (s := { s1 with toks := s1.toks + 1 }) I1.kIn hrec ?_))
  refine codeAny_mono (run X.A.in1 (.inr rfl) pins { s1 with toks := s1.toks + 1 } (base G τ) H1 [.ref p] [.ref p] Q I2 q2 (.cons rfl .nil) (q3.mono fun _ _ _ z => by rcases z.1 with z | z | z <;> cases z)) fun r s' hq => ?_
  cases r with
  | error er => exact False.elim hq
  | ok fl =>
    cases fl with
    | ret u =>
      obtain ⟨v, H', I3, rv, q3⟩ := hq
      show wpAny _ _ (handedOut u) _ _ _
      rw [PySem.W.handedOut_of (handed_of rv)]
      exact wpAny_pure ⟨v, H', I3, rv, q3⟩
    | next => exact False.elim hq
    | brk => exact False.elim hq
    | cont => exact False.elim hq
end
end Vc
end
section
set_option Elab.async false
set_option linter.all false
namespace Vc
open PySem PySem.Spec PyProof.Rows L2
variable [XrC]
section
variable {X : Cx} {c : Cc} {G : Gx} {Φ : Ph} {a b o : Expr} {es : List Expr} {pos : Pos}
/-- a method of one's own that is called by an operation -/
def tQm (X : Cx) (c : Cc) (G : Gx) (Φ : Ph) (w : Nat) (cn : Str) (f : Nat) (y : V) (vs : List V) (H : Hp) (Q : VK) : Prop := ∃ p C dx fs, y = .ref p ∧ X.mg cn = some (.ref C) ∧ H p = some (.ins C dx fs) ∧ (y :: vs).length = (c.ps f).length ∧ rCallQ G.K G.mg G.fl G.xr (c.gq f) Φ f (y :: vs) H (qPost w Q) (fun _ _ _ => False)
theorem call_lenQ (F : Fit X c G Φ) {cn : Str} {f : Nat} (hx : (QN.mt cn "__len__", f) ∈ c.qd) : CallR X (.builtin "len") (fun xs H Q => ∃ y, xs = [y] ∧ tQm X c G Φ 3 cn f y [] H Q) := by
  intro pins s σ H xs us Q I r ⟨y, hxs, p, C, dx, fs, hy, hC, hp, hl, q⟩
  subst hxs hy
  obtain ⟨u, rfl, ru⟩ := r.one
  obtain rfl : u = Value.ref p := ru
  obtain ⟨fa, ⟨C0, hC0, cl, mt⟩, h2, _, run⟩ := runQ_ok F hx
  rw [hC0] at hC
  obtain rfl : C0 = C := by injection hC with z; injection z
  obtain ⟨mA, O, _, _, _, _⟩ := ins_get I.hok hp
  obtain ⟨od, J, _⟩ := O.look
  refine Calls.call_function_entry kind_len plain_len entry_len (args_len1 _) ?_
  unfold Builtin.«len»
  refine wpAny_bind (m := oneArg "len" _) (wpAny_pure ?_)
  refine wpAny_bind (m := callSpecial? (.ref p) (Str.ofString "__len__")) (PySem.W.special_fn I.kIn J mt.at_ (beq_iff_eq.mp mt.fn) (wpAny_call (codeAny_mono (run X.A.in1 (.inr rfl) pins s σ H [.ref p] [.ref p] _ I hl (.cons rfl .nil) q) fun r s' hr => ?_)))
  cases r with
  | error er => exact False.elim hr
  | ok fl =>
    cases fl with
    | next => exact False.elim hr
    | brk => exact False.elim hr
    | cont => exact False.elim hr
    | ret u =>
      obtain ⟨v, H', I3, rv, n, rfl, ⟨h0, h1⟩, q3⟩ := hr
      obtain ⟨t, rfl⟩ := (show ∃ t, u = Value.int n t from rv)
      refine wpAny_bind (wpAny_holding (wpAny_pure ?_))
      refine wpAny_bind (wpAny_letGo ?_)
      show wpAny _ _ (if n < 0 then _ else _) _ _ _
      rw [if_neg (by omega)]
      show wpAny _ _ (if n ≥ 2 ^ 63 then _ else _) _ _ _
      rw [if_neg (by omega)]
      exact wpAny_bind (wpAny_mkInt (wpAny_pure ⟨_, rfl, ⟨.int n, H', I3.tok _, ⟨_, rfl⟩, q3⟩⟩))
theorem in_Q (F : Fit X c G Φ) {cn : Str} {f : Nat} (hx : (QN.mt cn "__contains__", f) ∈ c.qd) {pins : List (Addr × Obj)} {s : Shared} {σ : L2.St} {H : Hp} {x y : V} {v u : Value} {Q : Bool → Shared → Prop} {w : Nat} {Q0 : VK} (I : L2.Inv X pins σ H s) (rx : RelV x v) (ry : RelV y u)
    (q : tQm X c G Φ w cn f y [x] H Q0) (hQ : ∀ v H' s', L2.Inv X pins σ H' s' → qPost w Q0 v H' → ∃ b, v = .bl b ∧ Q b s') : wpAny (model X.prog X.w) X.A (contains u v) Q X.xe s := by
  obtain ⟨p, C, dx, fs, hy, hC, hp, hl, q⟩ := q
  subst hy
  obtain rfl : u = Value.ref p := ry
  obtain ⟨fa, ⟨C0, hC0, cl, mt⟩, h2, _, run⟩ := runQ_ok F hx
  rw [hC0] at hC
  obtain rfl : C0 = C := by injection hC with z; injection z
  obtain ⟨mA, O, _, _, _, _⟩ := ins_get I.hok hp
  obtain ⟨od, J, _⟩ := O.look
  unfold contains
  refine wpAny_holding (wpAny_bind (wpAny_bind (J.type.here ((PySem.W.looks_findIn I.kIn mt.at_).here ?_))))
  rw [if_neg (by simp)]
  refine wpAny_bind (PySem.W.unlessNone_K I.kIn J mt.at_ mt.fn (wpAny_call (codeAny_mono (run X.A (.inl rfl) pins s σ H [.ref p, v] [.ref p, x] _ I hl (.cons rfl (.cons rx .nil)) q) fun r s' hr => ?_)))
  cases r with
  | error er => exact False.elim hr
  | ok fl =>
    cases fl with
    | next => exact False.elim hr
    | brk => exact False.elim hr
    | cont => exact False.elim hr
    | ret u =>
      obtain ⟨v', H', I3, rv, q3⟩ := hr
      obtain ⟨bb, rfl, q4⟩ := hQ v' H' s' I3 q3
      cases (show u = Value.bool bb from rv)
      exact wpAny_pure q4
def inOp : Bool → CmpOp
  | false => .In
  | true => .NotIn
def inW : Bool → Nat
  | false => 4
  | true => 5
theorem in_opr (F : Fit X c G Φ) {cn : Str} {f : Nat} (hx : (QN.mt cn "__contains__", f) ∈ c.qd) : ∀ ng : Bool, OpR X (compareOp (inOp ng)) (fun x y H Q => tQm X c G Φ (inW ng) cn f y [x] H Q)
  | false => by
    intro pins s σ H x y v u Q I rx ry q
    refine wpAny_bind (m := contains u v) (in_Q F hx (w := 4) I rx ry q (Q := fun b s' => wpAny (model X.prog X.w) X.A (pure (.bool b)) (EP X pins σ Q) X.xe s') fun v' H' s' I' ⟨b, e, q⟩ => ⟨b, e, by exact wpAny_pure (show EP X pins σ Q (.bool b) s' from ⟨.bl b, H', I', rfl, q⟩)⟩)
  | true => by
    intro pins s σ H x y v u Q I rx ry q
    refine wpAny_bind (m := contains u v) (in_Q F hx (w := 5) I rx ry q (Q := fun b s' => wpAny (model X.prog X.w) X.A (pure (.bool (!b))) (EP X pins σ Q) X.xe s') fun v' H' s' I' ⟨b, e, q⟩ => ⟨b, e, by exact wpAny_pure (show EP X pins σ Q (.bool (!b)) s' from ⟨.bl (!b), H', I', rfl, q⟩)⟩)
/-- len(o) -/
theorem s_q3 (F : Fit X c G Φ) {x cn : Str} {f i j : Nat} {p : Pos} {gs : List Nat} (hx : (QN.mt cn "__len__", f) ∈ c.qd) (hg : Gl X "len") (hn : nameIs c i o = true) (ho : PE X o (tVar i)) (hp : plainX o = true) (hq : (j, i, x, cn) ∈ c.gh) (hk : qOk c 3 f (.cons (.obj i j) .nil) gs = true) :
    PE X (.Call (.Name "len" p) [o] [] pos) (tE G (evE Φ c.md (.callQ 3 f (.cons (.obj i j) .nil) gs))) := by
  refine PEwk (pe_callB (call_lenQ F hx) hg (F.blt _ (by decide)) (by decide +kernel) (pa_cons ho pa_nil (star_cons hp)) (by decide) (by decide) (star_cons hp) rfl) fun σ H Q ⟨τ, hτ, S, e, rel, lnk, k⟩ => ?_
  subst hτ
  rw [evE_Q] at k
  obtain ⟨he, k, pp, C, dx, fs, z1, z2, z3, z4, z5⟩ := obj_read F rel lnk hq k
  rw [evL] at k
  obtain ⟨vs, q1, q2, q3⟩ := qOk_read F hk lnk (evL_ob' (r := .nil) (rs := []) (e1 := e) he (by rw [evL])) rel.grow (.cons z2 (fun _ z => by cases z) .nil) (.cons trivial .nil) k
  cases q1
  exact ⟨.ref pp, at_base rfl (F.ghB (name_gh hn)) z2, .ref pp, rfl, pp, C, dx, fs, rfl, z1, z3, q2, q3.mono fun _ _ _ z => by rcases z.1 with z | z | z <;> cases z⟩
/-- x in o -/
theorem s_q4 (F : Fit X c G Φ) {x cn : Str} {f i j : Nat} {ax : Ex} {gs : List Nat} (ng : Bool) (hx : (QN.mt cn "__contains__", f) ∈ c.qd) (hn : nameIs c i o = true) (ho : PE X o (tVar i)) (hp : plainX o = true) (hq : (j, i, x, cn) ∈ c.gh) (hk : qOk c (inW ng) f (.cons ax (.cons (.obj i j) .nil)) gs = true)
    (ha : PE X a (tE G (evE Φ c.md ax))) : PE X (.Compare a [inOp ng] [o] pos) (tE G (evE Φ c.md (.callQ (inW ng) f (.cons ax (.cons (.obj i j) .nil)) gs))) ∧ PT X (.Compare a [inOp ng] [o] pos) (tT G fun e => asT (evE Φ c.md (.callQ (inW ng) f (.cons ax (.cons (.obj i j) .nil)) gs) e)) := by
  have read : ∀ (σ : L2.St) (H : Hp) (Q : VK), tE G (evE Φ c.md (.callQ (inW ng) f (.cons ax (.cons (.obj i j) .nil)) gs)) σ H Q → tOp (fun x y H Q => tQm X c G Φ (inW ng) cn f y [x] H Q) (tE G (evE Φ c.md ax)) (tVar i) σ H Q := by
    intro σ H Q ⟨τ, hτ, S, e, rel, lnk, k⟩
    subst hτ
    rw [evE_Q] at k
    have bd : ∀ (as : Exs) (F : List RV → En → R), (evL Φ c.md (.cons ax as) e).bd F = (evE Φ c.md ax e).bd fun r e1 => (evL Φ c.md as e1).bd fun rs e2 => F (r :: rs) e2 := fun as F => by
      rw [evL]
      cases evE Φ c.md ax e with
      | st => rfl
      | ex x e1 => rfl
      | ok r e1 =>
        dsimp only [R.bd]
        cases evL Φ c.md as e1 <;> rfl
    have k := (show PR G S H τ e Q ((evL Φ c.md (.cons ax (.cons (.obj i j) .nil)) e).bd fun rs e1 => semQ Φ (inW ng) f (c.md f) gs rs e1) from k)
    rw [bd] at k
    refine ⟨τ, rfl, S, e, rel, lnk, k.bd fun ra e1 v S1 H1 er g1 p1 f1 k1 => ?_⟩
    obtain ⟨he, _, pp, C, dx, fs, z1, z2, z3, z4, z5⟩ := obj_read F g1.rel (lnk.mono g1.sub) hq (k1.step g1)
    have ev0 : evL Φ c.md (.cons (.obj i j) .nil) e1 = .ok [.b i] e1 := evL_ob' he (by rw [evL])
    rw [ev0] at k1
    have ev1 : evL Φ c.md (.cons ax (.cons (.obj i j) .nil)) e = .ok [ra, .b i] e1 := by
      rw [evL, er]
      simp only [ev0]
    obtain ⟨vs, q1, q2, q3⟩ := qOk_read F hk lnk ev1 g1 (.cons p1 (fun ds _ n es h => by
      cases n with
      | zero => simp at h
      | succ n => simp at h) (.cons z2 (fun _ z => by cases z) .nil)) (.cons f1 (.cons trivial .nil)) k1
    have q1' : vs = [V.ref pp, v] := by cases ng <;> (unfold qVals at q1; simp [inW] at q1; exact q1.symm)
    subst q1'
    exact ⟨.ref pp, at_base rfl (F.ghB (name_gh hn)) z2, pp, C, dx, fs, rfl, z1, z3, q2, q3.mono fun _ _ _ z => by rcases z.1 with z | z | z <;> (cases ng <;> cases z)⟩
  exact ⟨PEwk (pe_cmpR (in_opr F hx ng) ha ho (plain_mark hp)) read, PTwk (pt_cmpR (in_opr F hx ng) ha ho (plain_mark hp)) fun σ H Q q => read σ H _ (asT_read σ H Q q)⟩
end
def clsQ (c : Cc) (i j f : Nat) (m : Str) : Bool := c.gh.any fun q => decide (q.1 = j ∧ q.2.1 = i ∧ (QN.mt q.2.2.2 m, f) ∈ c.qd ∧ m ∉ c.fl q.2.2.2)
theorem clsQ_ok {c : Cc} {i j f : Nat} {m : Str} (h : clsQ c i j f m = true) : ∃ x cn, (j, i, x, cn) ∈ c.gh ∧ (QN.mt cn m, f) ∈ c.qd ∧ m ∉ c.fl cn := by
  obtain ⟨q, hq, h⟩ := List.any_eq_true.mp h
  obtain ⟨rfl, rfl, h3, h4⟩ := of_decide_eq_true h
  exact ⟨q.2.2.1, q.2.2.2, hq, h3, h4⟩
def prQ (c : Cc) (i j f : Nat) (m : Str) : Bool := c.gh.any fun q => decide (q.1 = j ∧ q.2.1 = i ∧ (QN.pr q.2.2.2 m, f) ∈ c.qd)
theorem prQ_ok {c : Cc} {i j f : Nat} {m : Str} (h : prQ c i j f m = true) : ∃ x cn, (j, i, x, cn) ∈ c.gh ∧ (QN.pr cn m, f) ∈ c.qd := by
  obtain ⟨q, hq, h⟩ := List.any_eq_true.mp h
  obtain ⟨rfl, rfl, h3⟩ := of_decide_eq_true h
  exact ⟨q.2.2.1, q.2.2.2, hq, h3⟩
def obQ (c : Cc) (i j : Nat) : Bool := c.gh.any fun q => decide (q.1 = j ∧ q.2.1 = i)
theorem obQ_ok {c : Cc} {i j : Nat} (h : obQ c i j = true) : ∃ x cn, (j, i, x, cn) ∈ c.gh := by
  obtain ⟨q, hq, h⟩ := List.any_eq_true.mp h
  obtain ⟨rfl, rfl⟩ := of_decide_eq_true h
  exact ⟨q.2.2.1, q.2.2.2, hq⟩
def atQ (c : Cc) (i j : Nat) (x : Str) : Bool := c.gh.any fun q => decide (q.1 = j ∧ q.2.1 = i ∧ q.2.2.1 = x ∧ x ∈ c.fl q.2.2.2)
theorem atQ_ok {c : Cc} {i j : Nat} {x : Str} (h : atQ c i j x = true) : ∃ cn, (j, i, x, cn) ∈ c.gh ∧ x ∈ c.fl cn := by
  obtain ⟨q, hq, h⟩ := List.any_eq_true.mp h
  obtain ⟨rfl, rfl, rfl, h4⟩ := of_decide_eq_true h
  exact ⟨q.2.2.2, hq, h4⟩
def isInO (ng : Bool) (op : CmpOp) : Bool := match op with
  | .In => !ng
  | .NotIn => ng
  | _ => false
theorem isInO_ok {ng : Bool} {op : CmpOp} (h : isInO ng op = true) : op = inOp ng := by
  cases op <;> cases ng <;> simp [isInO] at h <;> rfl
def kwQ (c : Cc) (f n : Nat) (kws : List Keyword) : Bool := match kwNames kws with
  | some ks => decide (ks.Nodup ∧ (∀ y ∈ ks, y ∈ (c.ps f).drop 1) ∧ kwSel (c.ps f) (List.range 1) (ks.zip (List.range' 1 ks.length)) = some (List.range (ks.length + 1)) ∧ kws.length < 20 ∧ n = ks.length) && !kws.isEmpty
  | none => false
end Vc
end
section
set_option Elab.async false
set_option linter.all false
namespace Vc
open PySem PySem.Spec PyProof.Rows L2
variable [XrC]
def vConst : Expr → Option Const
  | .Constant c _ _ => some c
  | _ => none
theorem vConst_ok {e : Expr} {c : Const} (h : vConst e = some c) : ∃ k p, e = .Constant c k p := by
  cases e <;> first | (simp [vConst] at h; done) | (simp [vConst] at h; subst h; exact ⟨_, _, rfl⟩)
def vBin : Expr → Option (Expr × Operator × Expr)
  | .BinOp a o b _ => some (a, o, b)
  | _ => none
theorem vBin_ok {e a b : Expr} {o : Operator} (h : vBin e = some (a, o, b)) : ∃ p, e = .BinOp a o b p := by
  cases e <;> first | (simp [vBin] at h; done) | (simp [vBin] at h; obtain ⟨rfl, rfl, rfl⟩ := h; exact ⟨_, rfl⟩)
def vUn : Expr → Option (UnaryOp × Expr)
  | .UnaryOp o a _ => some (o, a)
  | _ => none
theorem vUn_ok {e a : Expr} {o : UnaryOp} (h : vUn e = some (o, a)) : ∃ p, e = .UnaryOp o a p := by
  cases e <;> first | (simp [vUn] at h; done) | (simp [vUn] at h; obtain ⟨rfl, rfl⟩ := h; exact ⟨_, rfl⟩)
def vCmp : Expr → Option (Expr × List CmpOp × List Expr)
  | .Compare a o b _ => some (a, o, b)
  | _ => none
theorem vCmp_ok {e a : Expr} {o : List CmpOp} {b : List Expr} (h : vCmp e = some (a, o, b)) : ∃ p, e = .Compare a o b p := by
  cases e <;> first | (simp [vCmp] at h; done) | (simp [vCmp] at h; obtain ⟨rfl, rfl, rfl⟩ := h; exact ⟨_, rfl⟩)
def vBop : Expr → Option (BoolOp × List Expr)
  | .BoolOp o a _ => some (o, a)
  | _ => none
theorem vBop_ok {e : Expr} {a : List Expr} {o : BoolOp} (h : vBop e = some (o, a)) : ∃ p, e = .BoolOp o a p := by
  cases e <;> first | (simp [vBop] at h; done) | (simp [vBop] at h; obtain ⟨rfl, rfl⟩ := h; exact ⟨_, rfl⟩)
def vIf : Expr → Option (Expr × Expr × Expr)
  | .IfExp t a b _ => some (t, a, b)
  | _ => none
theorem vIf_ok {e t a b : Expr} (h : vIf e = some (t, a, b)) : ∃ p, e = .IfExp t a b p := by
  cases e <;> first | (simp [vIf] at h; done) | (simp [vIf] at h; obtain ⟨rfl, rfl, rfl⟩ := h; exact ⟨_, rfl⟩)
def vList : Expr → Option (List Expr)
  | .List es _ => some es
  | _ => none
theorem vList_ok {e : Expr} {es : List Expr} (h : vList e = some es) : ∃ p, e = .List es p := by
  cases e <;> first | (simp [vList] at h; done) | (simp [vList] at h; subst h; exact ⟨_, rfl⟩)
def vTup : Expr → Option (List Expr)
  | .Tuple es _ _ => some es
  | _ => none
theorem vTup_ok {e : Expr} {es : List Expr} (h : vTup e = some es) : ∃ k p, e = .Tuple es k p := by
  cases e <;> first | (simp [vTup] at h; done) | (simp [vTup] at h; subst h; exact ⟨_, _, rfl⟩)
def vSub : Expr → Option (Expr × Expr)
  | .Subscript a b _ => some (a, b)
  | _ => none
theorem vSub_ok {e a b : Expr} (h : vSub e = some (a, b)) : ∃ p, e = .Subscript a b p := by
  cases e <;> first | (simp [vSub] at h; done) | (simp [vSub] at h; obtain ⟨rfl, rfl⟩ := h; exact ⟨_, rfl⟩)
def vSlice : Expr → Option (Option Expr × Option Expr)
  | .Slice a b none _ => some (a, b)
  | _ => none
theorem vSlice_ok {e : Expr} {a b : Option Expr} (h : vSlice e = some (a, b)) : ∃ p, e = .Slice a b none p := by
  cases e <;> first | (simp [vSlice] at h; done) | skip
  rename_i l u s p
  cases s <;> simp [vSlice] at h
  obtain ⟨rfl, rfl⟩ := h
  exact ⟨_, rfl⟩
def vSlice3 : Expr → Option (Option Expr × Option Expr × Expr)
  | .Slice a b (some s) _ => some (a, b, s)
  | _ => none
theorem vSlice3_ok {e s : Expr} {a b : Option Expr} (h : vSlice3 e = some (a, b, s)) : ∃ p, e = .Slice a b (some s) p := by
  cases e <;> first | (simp [vSlice3] at h; done) | skip
  rename_i l u s' p
  cases s' <;> simp [vSlice3] at h
  obtain ⟨rfl, rfl, rfl⟩ := h
  exact ⟨_, rfl⟩
def vCall : Expr → Option (Expr × List Expr × List Keyword × Pos)
  | .Call f a k p => some (f, a, k, p)
  | _ => none
theorem vCall_ok {e f : Expr} {a : List Expr} {k : List Keyword} {p : Pos} (h : vCall e = some (f, a, k, p)) : e = .Call f a k p := by
  cases e <;> first | (simp [vCall] at h; done) | (simp [vCall] at h; obtain ⟨rfl, rfl, rfl, rfl⟩ := h; rfl)
def vAttr : Expr → Option (Expr × Str × Pos)
  | .Attribute a n p => some (a, n, p)
  | _ => none
theorem vAttr_ok {e a : Expr} {n : Str} {p : Pos} (h : vAttr e = some (a, n, p)) : e = .Attribute a n p := by
  cases e <;> first | (simp [vAttr] at h; done) | (simp [vAttr] at h; obtain ⟨rfl, rfl, rfl⟩ := h; rfl)
def vLc : Expr → Option (Expr × Expr × Expr × List Expr × Scope × Pos)
  | .ListComp el [⟨t, i, fs, 0⟩] sc p => some (el, t, i, fs, sc, p)
  | _ => none
theorem vLc_ok {e el t i : Expr} {fs : List Expr} {sc : Scope} {p : Pos} (h : vLc e = some (el, t, i, fs, sc, p)) : e = .ListComp el [⟨t, i, fs, 0⟩] sc p := by
  unfold vLc at h
  split at h
  · cases h; rfl
  · cases h
def vLc2 : Expr → Option (Expr × Expr × Expr × Expr × Expr × Scope)
  | .ListComp el [⟨t, i, [], 0⟩, ⟨t1, i1, [], 0⟩] sc _ => some (el, t, i, t1, i1, sc)
  | _ => none
theorem vLc2_ok {e el t i t1 i1 : Expr} {sc : Scope} (h : vLc2 e = some (el, t, i, t1, i1, sc)) : ∃ p, e = .ListComp el [⟨t, i, [], 0⟩, ⟨t1, i1, [], 0⟩] sc p := by
  unfold vLc2 at h
  split at h
  · cases h; exact ⟨_, rfl⟩
  · cases h
def vJoin : Expr → Option (List Expr)
  | .JoinedStr vs _ => some vs
  | _ => none
theorem vJoin_ok {e : Expr} {vs : List Expr} (h : vJoin e = some vs) : ∃ p, e = .JoinedStr vs p := by
  cases e <;> first | (simp [vJoin] at h; done) | (simp [vJoin] at h; subst h; exact ⟨_, rfl⟩)
def clsBs (c : Cc) : List Nat → List Expr → Bool
  | [], [] => true
  | k :: ks, e :: es => clsB c k e && (plainX e && clsBs c ks es)
  | _, _ => false
def isIsOp (ng : Bool) : CmpOp → Bool
  | .Is => !ng
  | .IsNot => ng
  | _ => false
def isDc0 : Expr → Bool
  | .Dict [] [] _ => true
  | _ => false
theorem isDc0_ok {e : Expr} (h : isDc0 e = true) : ∃ p, e = .Dict [] [] p := by
  unfold isDc0 at h
  split at h
  · exact ⟨_, rfl⟩
  · cases h
def vCallI : Expr → Option (List Str × Expr × List Expr)
  | .Call (.Subscript (.List l _) ix _) args [] _ => (vNames l).map fun xs => (xs, ix, args)
  | _ => none
theorem vCallI_ok {e ix : Expr} {xs : List Str} {args : List Expr} (h : vCallI e = some (xs, ix, args)) : ∃ l p p2 p3, vNames l = some xs ∧ e = .Call (.Subscript (.List l p) ix p2) args [] p3 := by
  unfold vCallI at h
  split at h
  · obtain ⟨ys, h1, h2⟩ := Option.map_eq_some_iff.mp h
    cases h2
    exact ⟨_, _, _, _, h1, rfl⟩
  · cases h
def vFmt : Expr → Option Expr
  | .FormattedValue a c none _ => if c = -1 then some a else none
  | _ => none
theorem vFmt_ok {e a : Expr} (h : vFmt e = some a) : ∃ p, e = .FormattedValue a (-1) none p := by
  unfold vFmt at h
  split at h
  · split at h
    · rename_i hc
      cases h
      subst hc
      exact ⟨_, rfl⟩
    · cases h
  · cases h
def isInA : Bool → CmpOp → Bool
  | true, .NotIn => true
  | false, .In => true
  | _, _ => false
theorem isInA_ok {ng : Bool} {o : CmpOp} (h : isInA ng o = true) : o = inA ng := by
  cases ng <;> cases o <;> first | rfl | (simp [isInA] at h)
/-- the name is a dict of the module, with these texts -/
def kdC (c : Cc) (x : Str) (K : List (Str × D)) : Bool := match (c.con.lookup x).bind kdOf with
  | some K' => kdsEq K' K
  | none => false
theorem kdC_ok {c : Cc} {x : Str} {K : List (Str × D)} (h : kdC c x K = true) : ∃ dd, c.con.lookup x = some dd ∧ kdOf dd = some K := by
  unfold kdC at h
  split at h
  · rename_i K' hk
    obtain ⟨dd, h1, h2⟩ := Option.bind_eq_some_iff.mp hk
    obtain rfl := kdsEq_ok h
    exact ⟨dd, h1, h2⟩
  · cases h
def vKey : List Keyword → Option Expr
  | [⟨some k, y, _⟩] => if k = "key" then some y else none
  | _ => none
theorem vKey_ok {ks : List Keyword} {y : Expr} (h : vKey ks = some y) : ∃ p, ks = [⟨some "key", y, p⟩] := by
  unfold vKey at h
  split at h
  · split at h
    · rename_i hk
      cases h
      subst hk
      exact ⟨_, rfl⟩
    · cases h
  · cases h
def opOf : Operator → Option Op2
  | .Add => some .add | .Sub => some .sub | .Mult => some .mul | .FloorDiv => some .fdiv | .Mod => some .mod | .Pow => some .pow
  | _ => none
theorem opOf_ok {o : Operator} {p : Op2} (h : opOf o = some p) : o = opA p := by
  cases o <;> simp [opOf] at h <;> subst h <;> rfl
def cpOf : CmpOp → Option Cp
  | .Eq => some .eq | .NotEq => some .ne | .Lt => some .lt | .LtE => some .le | .Gt => some .gt | .GtE => some .ge | .In => some .inn | .NotIn => some .nin
  | _ => none
theorem cpOf_ok {o : CmpOp} {p : Cp} (h : cpOf o = some p) : o = cpA p := by
  cases o <;> simp [cpOf] at h <;> subst h <;> rfl
def isIs : CmpOp → Bool
  | .Is => true
  | _ => false
theorem isIs_ok {o : CmpOp} (h : isIs o = true) : o = .Is := by cases o <;> simp [isIs] at h <;> rfl
def isIsNot : CmpOp → Bool
  | .IsNot => true
  | _ => false
theorem isIsNot_ok {o : CmpOp} (h : isIsNot o = true) : o = .IsNot := by cases o <;> simp [isIsNot] at h <;> rfl
def isNotU : UnaryOp → Bool
  | .Not => true
  | _ => false
theorem isNotU_ok {o : UnaryOp} (h : isNotU o = true) : o = .Not := by cases o <;> simp [isNotU] at h <;> rfl
def isSubU : UnaryOp → Bool
  | .USub => true
  | _ => false
theorem isSubU_ok {o : UnaryOp} (h : isSubU o = true) : o = .USub := by cases o <;> simp [isSubU] at h <;> rfl
def isCNone : Option Const → Bool
  | some .none => true
  | _ => false
theorem isCNone_ok {o : Option Const} (h : isCNone o = true) : o = some .none := by
  cases o with
  | none => simp [isCNone] at h
  | some c => cases c <;> simp [isCNone] at h <;> rfl
def boolOf : BoolOp → Bool
  | .And => true
  | .Or => false
theorem boolOf_ok {o : BoolOp} {b : Bool} (h : boolOf o = b) : o = bopA b := by cases o <;> simp [boolOf] at h <;> subst h <;> rfl
def named (c : Cc) (e : Expr) (x : Str) : Bool := decide (vName e = some x) && glB c.sc x
def isPop : Mu → Bool
  | .pop => true
  | _ => false
mutual
def chkE : Ex → Cc → Expr → Bool
  | .int i, _, e => match vConst e with
    | some (.int j) => decide (i = j)
    | _ => false
  | .bl i, _, e => match vConst e with
    | some (.bool j) => decide (i = j)
    | _ => false
  | .non, _, e => isCNone (vConst e)
  | .str i, _, e => match vConst e with
    | some (.str j) => decide (i = j)
    | _ => false
  | .var i, c, e => match vName e with
    | some x => decide (c.N[i]? = some x ∧ ghB c i = true) && (visB c.sc x && (!(x == ("__debug__" : Str)) && !(x == ("__classdict__" : Str))))
    | none => false
  | .con x d, c, e => named c e x && (match c.con.lookup x with
    | some d' => conEq d d'
    | none => false)
  | .op o a b, c, e => match vBin e with
    | some (x, op, y) => decide (opOf op = some o) && (chkE a c x && chkE b c y)
    | none => false
  | .neg a, c, e => match vUn e with
    | some (op, x) => isSubU op && chkE a c x
    | none => false
  | .cmp o a b, c, e => match vCmp e with
    | some (l, [op], [r]) => decide (cpOf op = some o) && (plainX r && (chkE a c l && chkE b c r))
    | _ => false
  | .isn a, c, e => match vCmp e with
    | some (l, [op], [r]) => isIs op && (isCNone (vConst r) && chkE a c l)
    | _ => false
  | .nisn a, c, e => match vCmp e with
    | some (l, [op], [r]) => isIsNot op && (isCNone (vConst r) && chkE a c l)
    | _ => false
  | .chn a o b o2 d, c, e => match vCmp e with
    | some (l, [op, op2], [r, r2]) => decide (cpOf op = some o) && (decide (cpOf op2 = some o2) && (plainX r2 && (chkE a c l && (chkE b c r && chkE d c r2))))
    | _ => false
  | .bop k es, c, e => match vBop e with
    | some (op, vs) => decide (boolOf op = k) && chkL es c vs
    | none => false
  | .nt a, c, e => match vUn e with
    | some (op, x) => isNotU op && chkE a c x
    | none => false
  | .ite t a b, c, e => match vIf e with
    | some (x, y, z) => chkE t c x && (chkE a c y && chkE b c z)
    | none => false
  | .lst es, c, e => match vList e with
    | some xs => chkL es c xs
    | none => false
  | .tup es, c, e => match vTup e with
    | some xs => chkL es c xs
    | none => false
  | .ix a i, c, e => match vSub e with
    | some (x, y) => plainX y && (chkE a c x && chkE i c y)
    | none => false
  | .sl a lo hi, c, e => match vSub e with
    | some (x, y) => chkE a c x && (match vSlice y with
      | some (l, h) => chkO lo c l && chkO hi c h
      | none => false)
    | none => false
  | .bi f es, c, e => match vCall e with
    | some (fn, x :: args, [], _) => named c fn (biN f) && chkL es c (x :: args)
    | _ => false
  | .lrg es, c, e => match vCall e with
    | some (fn, [r], [], _) => named c fn "list" && (match vCall r with
      | some (fn2, args, [], _) => named c fn2 "range" && (decide (args.length = 1 ∨ args.length = 2 ∨ args.length = 3) && chkL es c args)
      | _ => false)
    | _ => false
  | .isi a t, c, e => match vCall e with
    | some (fn, [x, y], [], _) => named c fn "isinstance" && (named c y (tyX t) && (plainX x && chkE a c x))
    | _ => false
  | .mth m a es, c, e => match vCall e with
    | some (fn, x :: args, [], p) => (match vAttr fn with
      | some (o, n, ap) => decide (n = mtN m) && (plainB o && (decide (args.length < 20) && ((ap.endLine == p.line) && (chkE a c o && chkL es c (x :: args)))))
      | none => false)
    | _ => false
  | .mut m a es, c, e => match vCall e with
    | some (fn, args, [], p) => (match vAttr fn with
      | some (o, n, ap) => decide (n = muN m) && (plainB o && (decide (isPop m = args.isEmpty) && (decide (args.length < 20) && ((ap.endLine == p.line) && (chkE a c o && chkL es c args)))))
      | none => false)
    | _ => false
  | .call f es, c, e => match vCall e with
    | some (fn, args, [], _) => (match vName fn with
      | some x => decide (c.defs.lookup x = some f) && (decide ((c.ps f).length = (c.md f).length) && (glB c.sc x && (decide (args.length = (c.ps f).length) && chkL es c args)))
      | none => false)
    | _ => false
  | .callK f es kes pm, c, e => match vCall e with
    | some (fn, args, kws, _) => (match vName fn, kwNames kws with
      | some x, some ks => decide (c.defs.lookup x = some f) && (decide ((c.ps f).length = (c.md f).length) && (glB c.sc x && (decide (ks.Nodup ∧ (∀ y ∈ ks, y ∈ (c.ps f).drop args.length) ∧ pm.Nodup ∧ kwSel (c.ps f) (List.range args.length) (ks.zip (List.range' args.length ks.length)) = some pm) && (chkL es c args && chkK kes c kws))))
      | _, _ => false)
    | _ => false
  | .lc s tg own ts elt, c, e => match vLc e with
    | some (el, t, i, fs, sc, _) => decide ((∀ k ∈ tgIx tg, k ∈ own) ∧ ∀ k ∈ own, k ∉ c.pr) && (decide ((ownN c own).map (·.2) = own) && (blkC c.N c.sc sc (ownN c own) && (plainX i && (chkI s c t i && (chkTg (c.blk sc) tg t && (decide (fs.length < 2) && (chkL ts (c.blk sc) fs && chkE elt (c.blk sc) el)))))))
    | none => false
  | .trg es, c, e => match vCall e with
    | some (fn, [r], [], _) => named c fn "tuple" && (match vCall r with
      | some (fn2, args, [], _) => named c fn2 "range" && (decide (args.length = 1 ∨ args.length = 2) && chkL es c args)
      | _ => false)
    | _ => false
  | .slp a lo hi st, c, e => match vSub e with
    | some (x, y) => chkE a c x && (match vSlice3 y with
      | some (l, h, s) => chkO lo c l && (chkO hi c h && chkO st c (some s))
      | none => false)
    | none => false
  | .isb ng a b, c, e => match vCmp e with
    | some (l, [op], [r]) => (if ng = true then isIsNot op else isIs op) && (plainX r && (chkE a c l && chkE b c r))
    | _ => false
  | .callB f es, c, e => match vCall e with
    | some (fn, args, [], _) => (match vName fn with
      | some x => decide (c.defs.lookup x = some f) && (decide ((c.ps f).length = (c.md f).length) && (glB c.sc x && (decide (args.length = (c.ps f).length) && chkL es c args)))
      | none => false)
    | _ => false
  | .callKB f es kes pm, c, e => match vCall e with
    | some (fn, args, kws, _) => (match vName fn, kwNames kws with
      | some x, some ks => decide (c.defs.lookup x = some f) && (decide ((c.ps f).length = (c.md f).length) && (glB c.sc x && (decide (ks.Nodup ∧ (∀ y ∈ ks, y ∈ (c.ps f).drop args.length) ∧ pm.Nodup ∧ kwSel (c.ps f) (List.range args.length) (ks.zip (List.range' args.length ks.length)) = some pm) && (chkL es c args && chkK kes c kws))))
      | _, _ => false)
    | _ => false
  | .srk a, c, e => match vCall e with
    | some (fn, [x], ks, _) => named c fn "sorted" && ((match vKey ks with
      | some y => named c y "len"
      | none => false) && (plainX x && chkE a c x))
    | _ => false
  | .lc2 s tg own s1 tg1 own1 elt, c, e => match vLc2 e with
    | some (el, t, i, t1, i1, sc) => decide ((∀ k ∈ tgIx tg, k ∈ own) ∧ (∀ k ∈ tgIx tg1, k ∈ own1) ∧ (∀ k ∈ own1, k ∈ own) ∧ ∀ k ∈ own, k ∉ c.pr) && (decide ((ownN c own).map (·.2) = own) && (blkC c.N c.sc sc (ownN c own) && (plainX i && (plainX i1 && (chkI s c t i && (chkTg (c.blk sc) tg t && (chkTg (c.blk sc) tg1 t1 && (chkI s1 (c.blk sc) t1 i1 && chkE elt (c.blk sc) el))))))))
    | none => false
  | .kdi ng x K a, c, e => match vCmp e with
    | some (l, [op], [r]) => isInA ng op && (named c r x && (kdC c x K && chkE a c l))
    | _ => false
  | .kdx x K a, c, e => match vSub e with
    | some (o, y) => named c o x && (kdC c x K && (plainX y && chkE a c y))
    | none => false
  | .fmt a, c, e => match vFmt e with
    | some x => chkE a c x
    | none => false
  | .jn es, c, e => match vJoin e with
    | some vs => decide (2 ≤ vs.length) && chkL es c vs
    | none => false
  | .dc0, c, e => isDc0 e
  | .isx i ks tup, c, e => match vCall e with
    | some (fn, [o, cl], [], _) => named c fn "isinstance" && (plainX o && (nameIs c i o && (if tup = true then (match vTup cl with
      | some es => decide (es.length < 100) && clsBs c ks es
      | none => false) else (match ks with
      | [k] => plainX cl && clsB c k cl
      | _ => false))))
    | _ => false
  | .xno ng i, c, e => match vCmp e with
    | some (l, [op], [r]) => isIsOp ng op && (isCNone (vConst r) && nameIs c i l)
    | _ => false
  | .xfl i f cs, c, e => match vAttr e with
    | some (o, g, _) => decide (g = f) && (nameIs c i o && cs.all fun k => c.xs.any fun p => decide (c.xs.lookup p.1 = some ⟨k, some f⟩))
    | none => false
  | .callI fns a es, c, e => match vCallI e with
    | some (xs, ix, args) => decide (xs.length = fns.length ∧ fns.length < 1000) && ((xs.zip fns).all (fun p => decide (c.defs.lookup p.1 = some p.2) && glB c.sc p.1) && (fns.all (fun fn => decide ((c.ps fn).length = (c.md fn).length ∧ args.length = (c.ps fn).length)) && (decide (args ≠ []) && (plainX ix && (chkE a c ix && chkL es c args)))))
    | none => false
  | .atr j i x, c, e => match vAttr e with
    | some (o, g, _) => decide (g = x) && (plainB o && (nameIs c i o && atQ c i j x))
    | none => false
  | .obj i j, c, e => nameIs c i e && obQ c i j
  | .callQ w f .nil gs, c, e => false
  | .callQ w f (.cons a r) gs, c, e => qOk c w f (.cons a r) gs && (match w with
    | 0 => (match vCall e with
      | some (fn, x :: args, [], _) => (match vName fn with
        | some y => decide ((QN.fn y, f) ∈ c.qd) && (glB c.sc y && (plainX x && (chkE a c x && chkL r c args)))
        | none => false)
      | _ => false)
    | 1 => (match vCall e, a with
      | some (fn, args, [], p), .obj i j => (match vAttr fn with
        | some (o, m, ap) => nameIs c i o && (plainB o && (clsQ c i j f m && (decide (args.length < 20) && ((ap.endLine == p.line) && chkL r c args))))
        | none => false)
      | _, _ => false)
    | 6 => (match vCall e, a with
      | some (fn, [], kws, p), .obj i j => (match vAttr fn with
        | some (o, m, ap) => nameIs c i o && (plainB o && (clsQ c i j f m && (kwQ c f (exsLen r) kws && ((ap.endLine == p.line) && chkK r c kws))))
        | none => false)
      | _, _ => false)
    | 2 => (match vAttr e, a, r with
      | some (o, m, _), .obj i j, .nil => nameIs c i o && (plainB o && prQ c i j f m)
      | _, _, _ => false)
    | 3 => (match vCall e, a, r with
      | some (fn, [o], [], _), .obj i j, .nil => named c fn "len" && (plainX o && (nameIs c i o && clsQ c i j f "__len__"))
      | _, _, _ => false)
    | 4 => (match vCmp e, r with
      | some (l, [op], [o]), .cons (.obj i j) .nil => isInO false op && (plainX o && (nameIs c i o && (clsQ c i j f "__contains__" && chkE a c l)))
      | _, _ => false)
    | 5 => (match vCmp e, r with
      | some (l, [op], [o]), .cons (.obj i j) .nil => isInO true op && (plainX o && (nameIs c i o && (clsQ c i j f "__contains__" && chkE a c l)))
      | _, _ => false)
    | _ => false)
def chkL : Exs → Cc → List Expr → Bool
  | .nil, _, es => es.isEmpty
  | .cons a r, c, es => match es with
    | e :: es' => plainX e && (chkE a c e && chkL r c es')
    | [] => false
def chkO : Exs → Cc → Option Expr → Bool
  | .nil, _, o => o.isNone
  | .cons a .nil, c, o => match o with
    | some e => chkE a c e
    | none => false
  | .cons _ (.cons _ _), _, _ => false
def chkK : Exs → Cc → List Keyword → Bool
  | .nil, _, ks => ks.isEmpty
  | .cons a r, c, ks => match ks with
    | ⟨_, e, _⟩ :: ks' => chkE a c e && chkK r c ks'
    | [] => false
def chkI : Src → Cc → Expr → Expr → Bool
  | .it tup brw a, c, _, i => !(tup && brw) && chkE a c i
  | .rng es, c, _, i => match vCall i with
    | some (fn, args, [], _) => named c fn "range" && (decide (0 < args.length ∧ args.length ≤ 3) && chkL es c args)
    | _ => false
  | .enu _ a, c, t, i => (vTup t).isSome && (match vCall i with
    | some (fn, [x], [], _) => named c fn "enumerate" && (plainX x && chkE a c x)
    | _ => false)
  | .rvt a, c, _, i => (match vCall i with
    | some (fn, [x], [], _) => named c fn "reversed" && (plainX x && chkE a c x)
    | _ => false)
  | .chs a, c, _, i => chkE a c i
  | .zip a b, c, t, i => (vTup t).isSome && (match vCall i with
    | some (fn, [x, y], [], _) => named c fn "zip" && (plainX x && (plainX y && (chkE a c x && chkE b c y)))
    | _ => false)
end
theorem named_ok {X : Cx} {c : Cc} {G : Gx} {Φ : Ph} (F : Fit X c G Φ) {e : Expr} {x : Str} (h : named c e x = true) : ∃ p, e = .Name x p ∧ Gl X x ∧ (x == ("__debug__" : Str)) = false := by
  obtain ⟨h1, h2⟩ := Bool.and_eq_true_iff.mp h
  obtain ⟨p, hp⟩ := vName_ok (of_decide_eq_true h1)
  obtain ⟨g1, g2⟩ := glB_ok F h2
  exact ⟨p, hp, g1, g2⟩
theorem chkL_len : ∀ {es : Exs} {c : Cc} {l : List Expr}, chkL es c l = true → l.length = exsLen es ∧ l.all plainX = true
  | .nil, c, l, h => by
    rw [chkL] at h
    cases l with
    | nil => exact ⟨rfl, rfl⟩
    | cons _ _ => simp at h
  | .cons a r, c, l, h => by
    cases l with
    | nil => simp [chkL] at h
    | cons e l =>
      simp only [chkL, Bool.and_eq_true] at h
      obtain ⟨a1, a2⟩ := chkL_len h.2.2
      exact ⟨by simp [exsLen, a1], by simp [h.1]; simpa using a2⟩
theorem chkK_len : ∀ {es : Exs} {c : Cc} {l : List Keyword}, chkK es c l = true → l.length = exsLen es
  | .nil, c, l, h => by
    rw [chkK] at h
    cases l with
    | nil => rfl
    | cons _ _ => simp at h
  | .cons a r, c, l, h => by
    cases l with
    | nil => simp [chkK] at h
    | cons e l =>
      obtain ⟨n, v, p⟩ := e
      simp only [chkK, Bool.and_eq_true] at h
      simp [exsLen, chkK_len h.2]
theorem kwNames_len : ∀ {kws : List Keyword} {ks : List Str}, kwNames kws = some ks → ks.length = kws.length
  | [], ks, h => by simp [kwNames] at h; subst h; rfl
  | ⟨some n, _, _⟩ :: r, ks, h => by
    simp only [kwNames, Option.map_eq_some_iff] at h
    obtain ⟨ks', h1, rfl⟩ := h
    simp [kwNames_len h1]
  | ⟨none, _, _⟩ :: _, _, h => by simp [kwNames] at h
theorem s_evTs0 {X : Cx} {G : Gx} : PTs X [] (tT G fun e => .ok true e) := ⟨fun pins s σ H Q I ⟨τ, hτ, S, e, rel, lnk, k⟩ => pts_nil.run pins s σ H Q I (k S H rel.grow)⟩
end Vc
end
section
set_option Elab.async false
set_option linter.all false
set_option maxRecDepth 20000
namespace Vc
open PySem PySem.Spec PyProof.Rows L2
variable [XrC]
theorem and2 {a b : Bool} (h : (a && b) = true) : a = true ∧ b = true := Bool.and_eq_true_iff.mp h
/-- both forms of a reading from that of a value that is no special test -/
theorem both {X : Cx} {G : Gx} {e : Expr} {f : En → R} (h : PE X e (tE G f)) (hp : plainT e = true) : PE X e (tE G f) ∧ PT X e (tT G fun en => asT (f en)) := ⟨h, s_test hp h⟩
abbrev Snd (X : Cx) (G : Gx) (e : Expr) (f : En → R) : Prop := PE X e (tE G f) ∧ PT X e (tT G fun en => asT (f en))
theorem isTrue_ifExp {M : Model} {A : Around} {E : Value → Shared → Prop} {s : Shared} {t x y : Expr} {p : Pos} {env : Env} {whole : Sem Value} {Q : Bool → Shared → Prop}
    (h : wpAny M A (PySem.isTrue t env (eval t env)) (fun c s1 => if c = true then wpAny M A (PySem.isTrue x env (eval x env)) Q E s1 else wpAny M A (PySem.isTrue y env (eval y env)) Q E s1) E s) : wpAny M A (PySem.isTrue (.IfExp t x y p) env whole) Q E s := by
  rw [PySem.isTrue]
  refine wpAny_bind (wpAny_mono h (fun c s1 q => ?_) fun _ _ z => z)
  cases c with
  | true => exact q
  | false => exact q
theorem s_iteT {X : Cx} {G : Gx} {a b c : Expr} {pos : Pos} {f g : En → R} {t : En → RT} (hc : PT X c (tT G t)) (ha : PT X a (tT G fun e => asT (f e))) (hb : PT X b (tT G fun e => asT (g e))) : PT X (.IfExp c a b pos) (tT G fun e => asT (semIte t f g e)) := by
  refine ⟨fun pins s σ H Q I ⟨τ, hτ, S, e, rel, lnk, k⟩ => isTrue_ifExp ?_⟩
  have read : tT G t σ H fun cc H1 => if cc = true then tT G (fun e => asT (f e)) σ H1 Q else tT G (fun e => asT (g e)) σ H1 Q := ⟨τ, hτ, S, e, rel, lnk, by
    have k : PB G S H τ e Q (asT (semIte t f g e)) := k
    unfold semIte at k
    cases ht : t e with
    | st => rw [ht] at k; exact k
    | ex x e1 => rw [ht] at k; exact k
    | ok b e1 =>
      rw [ht] at k
      have k : PB G S H τ e Q (asT (if b = true then f e1 else g e1)) := k
      intro S1 H1 g1
      cases b with
      | true => exact ⟨τ, hτ, S1, e1, g1.rel, lnk.mono g1.sub, PB.step g1 k⟩
      | false => exact ⟨τ, hτ, S1, e1, g1.rel, lnk.mono g1.sub, PB.step g1 k⟩⟩
  refine wpAny_mono (hc.run pins s σ H _ I read) (fun cc s1 ⟨H1, I1, q⟩ => ?_) fun _ _ z => z
  cases cc with
  | true => exact ha.run pins s1 σ H1 Q I1 q
  | false => exact hb.run pins s1 σ H1 Q I1 q
theorem s_evTs1 {X : Cx} {G : Gx} {a : Expr} {Φ : Ph} {ms : Nat → List Md} {x : Ex} (h : PT X a (tT G fun e => asT (evE Φ ms x e))) : PTs X [a] (tT G (evTs Φ ms (.cons x .nil))) := by
  refine ⟨fun pins s σ H Q I ⟨τ, hτ, S, e, rel, lnk, k⟩ => (pts_one h).run pins s σ H Q I ⟨τ, hτ, S, e, rel, lnk, ?_⟩⟩
  rw [evTs] at k
  show PB G S H τ e Q (asT (evE Φ ms x e))
  cases hx : asT (evE Φ ms x e) with
  | st => rw [hx] at k; exact k
  | ex y e1 => rw [hx] at k; exact k
  | ok b e1 =>
    rw [hx] at k
    cases b with
    | true => simp only [evTs] at k; exact k
    | false => exact k
theorem soundMut {Φ : Ph} (m : Mu) (es : Exs) {X : Cx} {G : Gx} {ms : Nat → List Md} {f : En → R} {o : Expr} {args : List Expr} {ap pos : Pos} (hK : X.K = G.K) (hpo : plainB o = true) (hm : isPop m = args.isEmpty) (hlen : args.length = exsLen es) (hpe : args.all plainX = true) (hl : args.length < 20) (hli : (ap.endLine == pos.line) = true)
    (ha : PE X o (tE G f)) (hb : PA X args (tL G (evL Φ ms es))) : PE X (.Call (.Attribute o (muN m) ap) args [] pos) (tE G (semMut m f (evL Φ ms es))) := by
  cases args with
  | nil =>
    cases es with
    | cons _ _ => simp [exsLen] at hlen
    | nil =>
      cases m <;> simp [isPop] at hm
      have : evL Φ ms .nil = fun e => .ok [] e := by funext e; rw [evL]
      rw [this]
      exact s_pop hK hpo hli ha
  | cons b args =>
    obtain ⟨hpa, hpe⟩ := and2 (show (plainX b && args.all plainX) = true from hpe)
    exact s_mut m (fun z => by subst z; simp [isPop] at hm) hK hpo hpa hpe (by simp at hl; omega) hli ha hb
theorem soundCallG {Φ : Ph} {f : Nat} {cs : List RV → En → R} (es : Exs) {X : Cx} {c : Cc} {G : Gx} (F : Fit X c G Φ) (hcs : Cs G Φ f (c.md f).length cs) {x : Str} {args : List Expr} {p pos : Pos} (hx : c.defs.lookup x = some f) (hl : (c.ps f).length = (c.md f).length) (hg : Gl X x) (hdb : (x == ("__debug__" : Str)) = false) (hal : args.length = (c.ps f).length)
    (hlen : args.length = exsLen es) (hpe : args.all plainX = true) (ha : PA X args (tL G (evL Φ c.md es))) : PE X (.Call (.Name x p) args [] pos) (tE G (semCall cs (evL Φ c.md es))) := by
  cases args with
  | nil =>
    cases es with
    | cons _ _ => simp [exsLen] at hlen
    | nil =>
      have : evL Φ c.md .nil = fun e => .ok [] e := by funext e; rw [evL]
      rw [this]
      exact s_call0 F hcs hx (List.eq_nil_of_length_eq_zero hal.symm) hg hdb
  | cons b args =>
    obtain ⟨hpa, hpe⟩ := and2 (show (plainX b && args.all plainX) = true from hpe)
    exact s_call F hcs hx hl hg hdb hpa hpe ha
theorem s_nameV {X : Cx} {c : Cc} {G : Gx} {Φ : Ph} (F : Fit X c G Φ) {i : Nat} {o : Expr} (h : nameIs c i o = true) : PE X o (tVar i) := by
  obtain ⟨y, p, rfl, h1, h2, h3, h4⟩ := name_ok h
  exact pe_var (i := i) (by rw [F.N]; exact h1) (by rw [F.sc]; exact visB_ok h2) h3 h4
theorem clsBs_ok {X : Cx} {c : Cc} {G : Gx} {Φ : Ph} (F : Fit X c G Φ) : ∀ {ks : List Nat} {es : List Expr}, clsBs c ks es = true → ∃ cvs us, ClsKs X c ks es cvs us
  | [], [], _ => ⟨[], [], .nil⟩
  | [], _ :: _, h => by cases h
  | _ :: _, [], h => by cases h
  | k :: ks, e :: es, h => by
    obtain ⟨h1, h2⟩ := and2 (show (clsB c k e && (plainX e && clsBs c ks es)) = true from h)
    obtain ⟨h2, h3⟩ := and2 h2
    obtain ⟨cv, u, hc⟩ := clsB_ok F h1
    obtain ⟨cvs, us, hr⟩ := clsBs_ok F h3
    exact ⟨cv :: cvs, u :: us, .cons hc h2 hr⟩
theorem soundQ {Φ : Ph} {X : Cx} {c : Cc} {G : Gx} (F : Fit X c G Φ) {w f : Nat} {a : Ex} {r : Exs} {gs : List Nat} {e : Expr} (h : chkE (.callQ w f (.cons a r) gs) c e = true) (sa : ∀ {e : Expr}, chkE a c e = true → Snd X G e (evE Φ c.md a)) (sl : ∀ {l : List Expr}, chkL r c l = true → PA X l (tL G (evL Φ c.md r)))
    (sk : ∀ {l : List Keyword}, chkK r c l = true → PK X l (tL G (evL Φ c.md r))) : Snd X G e (evE Φ c.md (.callQ w f (.cons a r) gs)) := by
  simp only [chkE] at h
  have h0 := and2 h
  clear h
  obtain ⟨hk, h⟩ := h0
  split at h
  · -- f(..)
    split at h
    · rename_i fn x args p hv
      split at h
      · rename_i y hy
        obtain ⟨h1, u1⟩ := and2 h
        obtain ⟨h2, u2⟩ := and2 u1
        obtain ⟨h3, u3⟩ := and2 u2
        obtain ⟨h4, h5⟩ := and2 u3
        obtain rfl := vCall_ok hv
        obtain ⟨p2, rfl⟩ := vName_ok hy
        obtain ⟨hg, hdb⟩ := glB_ok F h2
        exact both (s_q0 F (of_decide_eq_true h1) hg hdb hk h3 (chkL_len h5).2 (s_cons h3 (sa h4).1 (sl h5))) rfl
      · cases h
    · cases h
  · -- o.m(..)
    split at h
    · rename_i fn args p i j hv
      split at h
      · rename_i o m ap hv2
        obtain ⟨h1, u1⟩ := and2 h
        obtain ⟨h2, u2⟩ := and2 u1
        obtain ⟨h3, u3⟩ := and2 u2
        obtain ⟨h4, u4⟩ := and2 u3
        obtain ⟨h5, h6⟩ := and2 u4
        obtain rfl := vCall_ok hv
        obtain rfl := vAttr_ok hv2
        obtain ⟨x, cn, q1, q2, q3⟩ := clsQ_ok h3
        refine both (s_q1 F q2 q3 h1 (s_nameV F h1) h2 q1 hk (chkL_len h6).2 (of_decide_eq_true h4) h5 (sl h6) fun z => ?_) rfl
        subst z
        cases r with
        | nil => rfl
        | cons a r => simp [chkL] at h6
      · cases h
    · cases h
  · -- o.m(k=..)
    split at h
    · rename_i fn kws p i j hv
      split at h
      · rename_i o m ap hv2
        obtain ⟨h1, u1⟩ := and2 h
        obtain ⟨h2, u2⟩ := and2 u1
        obtain ⟨h3, u3⟩ := and2 u2
        obtain ⟨h4, u4⟩ := and2 u3
        obtain ⟨h5, h6⟩ := and2 u4
        obtain rfl := vCall_ok hv
        obtain rfl := vAttr_ok hv2
        obtain ⟨x, cn, q1, q2, q3⟩ := clsQ_ok h3
        unfold kwQ at h4
        split at h4
        · rename_i ks hks
          obtain ⟨h7, h8⟩ := and2 h4
          obtain ⟨k1, k2, k3, k4, k5⟩ := of_decide_eq_true h7
          exact both (s_q6 F q2 q3 h1 (s_nameV F h1) h2 q1 hk hks k1 k2 k3 k4 (fun z => by subst z; simp at h8) k5 h5 (sk h6)) rfl
        · cases h4
      · cases h
    · cases h
  · -- o.m
    split at h
    · rename_i o m ap i j hv
      obtain ⟨h1, u1⟩ := and2 h
      obtain ⟨h2, h3⟩ := and2 u1
      obtain rfl := vAttr_ok hv
      obtain ⟨x, cn, q1, q2⟩ := prQ_ok h3
      exact both (s_q2 F q2 h1 (s_nameV F h1) h2 q1 hk) rfl
    · cases h
  · -- len(o)
    split at h
    · rename_i fn o p i j hv
      obtain ⟨h1, u1⟩ := and2 h
      obtain ⟨h2, u2⟩ := and2 u1
      obtain ⟨h3, h4⟩ := and2 u2
      obtain rfl := vCall_ok hv
      obtain ⟨p2, rfl, hg, _⟩ := named_ok F h1
      obtain ⟨x, cn, q1, q2, q3⟩ := clsQ_ok h4
      exact both (s_q3 F q2 hg h3 (s_nameV F h3) h2 q1 hk) rfl
    · cases h
  · split at h
    · rename_i l op o i j hv
      obtain ⟨h1, u1⟩ := and2 h
      obtain ⟨h2, u2⟩ := and2 u1
      obtain ⟨h3, u3⟩ := and2 u2
      obtain ⟨h4, h5⟩ := and2 u3
      obtain ⟨p, rfl⟩ := vCmp_ok hv
      obtain rfl := isInO_ok h1
      obtain ⟨x, cn, q1, q2, q3⟩ := clsQ_ok h4
      exact s_q4 F false q2 h3 (s_nameV F h3) h2 q1 hk (sa h5).1
    · cases h
  · split at h
    · rename_i l op o i j hv
      obtain ⟨h1, u1⟩ := and2 h
      obtain ⟨h2, u2⟩ := and2 u1
      obtain ⟨h3, u3⟩ := and2 u2
      obtain ⟨h4, h5⟩ := and2 u3
      obtain ⟨p, rfl⟩ := vCmp_ok hv
      obtain rfl := isInO_ok h1
      obtain ⟨x, cn, q1, q2, q3⟩ := clsQ_ok h4
      exact s_q4 F true q2 h3 (s_nameV F h3) h2 q1 hk (sa h5).1
    · cases h
  · cases h
section
variable {Φ : Ph}
mutual
theorem soundE : ∀ (x : Ex) {X : Cx} {c : Cc} {G : Gx} (F : Fit X c G Φ) {e : Expr}, chkE x c e = true → Snd X G e (evE Φ c.md x)
  | .int i, X, c, G, F, e, h => by
    simp only [chkE] at h
    split at h
    · rename_i j hv
      obtain rfl := of_decide_eq_true h
      obtain ⟨k, p, rfl⟩ := vConst_ok hv
      exact both (PEwk pe_int fun σ H Q q => tE_val (d := .int i) (v := .int i) (t := tC (.int i)) (fun S => .int i) (fun σ H Q q => q) σ H Q q) rfl
    · cases h
  | .bl i, X, c, G, F, e, h => by
    simp only [chkE] at h
    split at h
    · rename_i j hv
      obtain rfl := of_decide_eq_true h
      obtain ⟨k, p, rfl⟩ := vConst_ok hv
      exact both (PEwk pe_bl fun σ H Q q => tE_val (d := .bool i) (v := .bl i) (t := tC (.bl i)) (fun S => .bl i) (fun σ H Q q => q) σ H Q q) rfl
    · cases h
  | .non, X, c, G, F, e, h => by
    simp only [chkE] at h
    obtain ⟨k, p, rfl⟩ := vConst_ok (isCNone_ok h)
    exact both (PEwk pe_non fun σ H Q q => tE_val (d := .none) (v := .non) (t := tC .non) (fun S => .non) (fun σ H Q q => q) σ H Q q) rfl
  | .str i, X, c, G, F, e, h => by
    simp only [chkE] at h
    split at h
    · rename_i j hv
      obtain rfl := of_decide_eq_true h
      obtain ⟨k, p, rfl⟩ := vConst_ok hv
      exact both (PEwk pe_str fun σ H Q q => tE_val (d := .str i) (v := .str i) (t := tC (.str i)) (fun S => .str i) (fun σ H Q q => q) σ H Q q) rfl
    · cases h
  | .var i, X, c, G, F, e, h => by
    simp only [chkE] at h
    split at h
    · rename_i x hv
      obtain ⟨h1, h2⟩ := and2 h
      obtain ⟨h2, h3⟩ := and2 h2
      obtain ⟨h3, h4⟩ := and2 h3
      obtain ⟨p, rfl⟩ := vName_ok hv
      exact both (s_var F (of_decide_eq_true h1).1 (of_decide_eq_true h1).2 h2 (by simpa using h3) (by simpa using h4)) rfl
    · cases h
  | .con x d, X, c, G, F, e, h => by
    simp only [chkE] at h
    obtain ⟨h1, h2⟩ := and2 h
    obtain ⟨p, rfl, hg, hdb⟩ := named_ok F h1
    split at h2
    · rename_i d' hd
      have hk := conEq_kd h2
      obtain rfl := conEq_ok h2
      exact both (s_con F hd hk hg hdb) rfl
    · cases h2
  | .op o a b, X, c, G, F, e, h => by
    simp only [chkE] at h
    split at h
    · rename_i x op y hv
      obtain ⟨h1, h2⟩ := and2 h
      obtain ⟨h2, h3⟩ := and2 h2
      obtain ⟨p, rfl⟩ := vBin_ok hv
      obtain rfl := opOf_ok (of_decide_eq_true h1)
      exact both (s_op F.K o (soundE a F h2).1 (soundE b F h3).1) rfl
    · cases h
  | .neg a, X, c, G, F, e, h => by
    simp only [chkE] at h
    split at h
    · rename_i op x hv
      obtain ⟨h1, h2⟩ := and2 h
      obtain ⟨p, rfl⟩ := vUn_ok hv
      obtain rfl := isSubU_ok h1
      exact both (s_neg (soundE a F h2).1) rfl
    · cases h
  | .cmp o a b, X, c, G, F, e, h => by
    simp only [chkE] at h
    split at h
    · rename_i l op r hv
      obtain ⟨h1, h2⟩ := and2 h
      obtain ⟨h2, h3⟩ := and2 h2
      obtain ⟨h3, h4⟩ := and2 h3
      obtain ⟨p, rfl⟩ := vCmp_ok hv
      obtain rfl := cpOf_ok (of_decide_eq_true h1)
      exact ⟨s_cmp F.K F.un o (plain_mark h2) (soundE a F h3).1 (soundE b F h4).1, s_cmpT F.K F.un o (plain_mark h2) (soundE a F h3).1 (soundE b F h4).1⟩
    · cases h
  | .isn a, X, c, G, F, e, h => by
    simp only [chkE] at h
    split at h
    · rename_i l op r hv
      obtain ⟨h1, h2⟩ := and2 h
      obtain ⟨h2, h3⟩ := and2 h2
      obtain ⟨p, rfl⟩ := vCmp_ok hv
      obtain rfl := isIs_ok h1
      obtain ⟨k, p2, rfl⟩ := vConst_ok (isCNone_ok h2)
      exact ⟨s_isn (soundE a F h3).1, s_isnT (soundE a F h3).1⟩
    · cases h
  | .nisn a, X, c, G, F, e, h => by
    simp only [chkE] at h
    split at h
    · rename_i l op r hv
      obtain ⟨h1, h2⟩ := and2 h
      obtain ⟨h2, h3⟩ := and2 h2
      obtain ⟨p, rfl⟩ := vCmp_ok hv
      obtain rfl := isIsNot_ok h1
      obtain ⟨k, p2, rfl⟩ := vConst_ok (isCNone_ok h2)
      exact ⟨s_nisn (soundE a F h3).1, s_nisnT (soundE a F h3).1⟩
    · cases h
  | .chn a o b o2 d, X, c, G, F, e, h => by
    simp only [chkE] at h
    split at h
    · rename_i l op op2 r r2 hv
      obtain ⟨h1, h2⟩ := and2 h
      obtain ⟨h2, h3⟩ := and2 h2
      obtain ⟨h3, h4⟩ := and2 h3
      obtain ⟨h4, h5⟩ := and2 h4
      obtain ⟨h5, h6⟩ := and2 h5
      obtain ⟨p, rfl⟩ := vCmp_ok hv
      obtain rfl := cpOf_ok (of_decide_eq_true h1)
      obtain rfl := cpOf_ok (of_decide_eq_true h2)
      exact ⟨s_chn F.K F.un o o2 h3 (soundE a F h4).1 (soundE b F h5).1 (soundE d F h6).1, s_chnT F.K F.un o o2 h3 (soundE a F h4).1 (soundE b F h5).1 (soundE d F h6).1⟩
    · cases h
  | .bop k es, X, c, G, F, e, h => by
    simp only [chkE] at h
    split at h
    · rename_i op vs hv
      obtain ⟨h1, h2⟩ := and2 h
      obtain ⟨p, rfl⟩ := vBop_ok hv
      obtain rfl := boolOf_ok (of_decide_eq_true h1)
      obtain ⟨q1, q2⟩ := soundB k es F h2 (p := p)
      exact ⟨q1, q2.pt⟩
    · cases h
  | .nt a, X, c, G, F, e, h => by
    simp only [chkE] at h
    split at h
    · rename_i op x hv
      obtain ⟨h1, h2⟩ := and2 h
      obtain ⟨p, rfl⟩ := vUn_ok hv
      obtain rfl := isNotU_ok h1
      exact ⟨s_nt (soundE a F h2).1, s_ntT (soundE a F h2).2⟩
    · cases h
  | .ite t a b, X, c, G, F, e, h => by
    simp only [chkE] at h
    split at h
    · rename_i x y z hv
      obtain ⟨h1, h2⟩ := and2 h
      obtain ⟨h2, h3⟩ := and2 h2
      obtain ⟨p, rfl⟩ := vIf_ok hv
      exact ⟨s_ite (soundE t F h1).2 (soundE a F h2).1 (soundE b F h3).1, s_iteT (soundE t F h1).2 (soundE a F h2).2 (soundE b F h3).2⟩
    · cases h
  | .lst es, X, c, G, F, e, h => by
    simp only [chkE] at h
    split at h
    · rename_i xs hv
      obtain ⟨p, rfl⟩ := vList_ok hv
      exact both (s_lst (soundL es F h)) rfl
    · cases h
  | .tup es, X, c, G, F, e, h => by
    simp only [chkE] at h
    split at h
    · rename_i xs hv
      obtain ⟨k, p, rfl⟩ := vTup_ok hv
      exact both (s_tup (soundL es F h)) rfl
    · cases h
  | .ix a i, X, c, G, F, e, h => by
    simp only [chkE] at h
    split at h
    · rename_i x y hv
      obtain ⟨h1, h2⟩ := and2 h
      obtain ⟨h2, h3⟩ := and2 h2
      obtain ⟨p, rfl⟩ := vSub_ok hv
      exact both (s_ix F.K h1 (soundE a F h2).1 (soundE i F h3).1) rfl
    · cases h
  | .sl a lo hi, X, c, G, F, e, h => by
    simp only [chkE] at h
    split at h
    · rename_i x y hv
      obtain ⟨h1, h2⟩ := and2 h
      obtain ⟨p, rfl⟩ := vSub_ok hv
      split at h2
      · rename_i l u hs
        obtain ⟨h2, h3⟩ := and2 h2
        obtain ⟨p2, rfl⟩ := vSlice_ok hs
        exact both (s_sl F.K (soundE a F h1).1 (soundO lo F h2) (soundO hi F h3)) rfl
      · cases h2
    · cases h
  | .bi f es, X, c, G, F, e, h => by
    simp only [chkE] at h
    split at h
    · rename_i fn x args p hv
      obtain ⟨h1, h2⟩ := and2 h
      obtain rfl := vCall_ok hv
      obtain ⟨p, rfl, hg, _⟩ := named_ok F h1
      obtain ⟨_, hpe⟩ := chkL_len h2
      obtain ⟨hpa, hpe⟩ := and2 (show (plainX x && args.all plainX) = true from hpe)
      exact both (s_bi F f hg hpa hpe (soundL es F h2)) rfl
    · cases h
  | .lrg .nil, X, c, G, F, e, h => by
    simp only [chkE] at h
    split at h
    · rename_i fn r p hv
      obtain ⟨h1, h2⟩ := and2 h
      obtain rfl := vCall_ok hv
      obtain ⟨p, rfl, hg, _⟩ := named_ok F h1
      split at h2
      · rename_i fn2 args p2 hv2
        obtain ⟨h2, h3⟩ := and2 h2
        obtain ⟨h3, h4⟩ := and2 h3
        obtain rfl := vCall_ok hv2
        obtain ⟨p3, rfl, hgr, _⟩ := named_ok F h2
        have h3 := of_decide_eq_true h3
        obtain ⟨hlen, _⟩ := chkL_len h4
        simp [exsLen] at hlen
        subst hlen
        simp at h3
      · cases h2
    · cases h
  | .lrg (.cons a .nil), X, c, G, F, e, h => by
    simp only [chkE] at h
    split at h
    · rename_i fn r p hv
      obtain ⟨h1, h2⟩ := and2 h
      obtain rfl := vCall_ok hv
      obtain ⟨p, rfl, hg, _⟩ := named_ok F h1
      split at h2
      · rename_i fn2 args p2 hv2
        obtain ⟨h2, h3⟩ := and2 h2
        obtain ⟨h3, h4⟩ := and2 h3
        obtain rfl := vCall_ok hv2
        obtain ⟨p3, rfl, hgr, _⟩ := named_ok F h2
        have h3 := of_decide_eq_true h3
        cases args with
        | nil => simp [chkL] at h4
        | cons x args =>
          simp only [chkL] at h4
          obtain ⟨k1, k2⟩ := and2 h4
          obtain ⟨k3, k4⟩ := and2 k2
          cases args with
          | cons _ _ => simp at k4
          | nil => exact both (s_lrg1 F hg hgr k1 (soundE a F k3).1) rfl
      · cases h2
    · cases h
  | .lrg (.cons a (.cons b .nil)), X, c, G, F, e, h => by
    simp only [chkE] at h
    split at h
    · rename_i fn r p hv
      obtain ⟨h1, h2⟩ := and2 h
      obtain rfl := vCall_ok hv
      obtain ⟨p, rfl, hg, _⟩ := named_ok F h1
      split at h2
      · rename_i fn2 args p2 hv2
        obtain ⟨h2, h3⟩ := and2 h2
        obtain ⟨h3, h4⟩ := and2 h3
        obtain rfl := vCall_ok hv2
        obtain ⟨p3, rfl, hgr, _⟩ := named_ok F h2
        have h3 := of_decide_eq_true h3
        cases args with
        | nil => simp [chkL] at h4
        | cons x args =>
          cases args with
          | nil => simp [chkL] at h4
          | cons y args =>
            simp only [chkL] at h4
            obtain ⟨k1, k2⟩ := and2 h4
            obtain ⟨k3, k4⟩ := and2 k2
            obtain ⟨k5, k6⟩ := and2 k4
            obtain ⟨k7, k8⟩ := and2 k6
            cases args with
            | cons _ _ => simp at k8
            | nil => exact both (s_lrg2 F hg hgr k1 k5 (soundE a F k3).1 (soundE b F k7).1) rfl
      · cases h2
    · cases h
  | .lrg (.cons a (.cons b (.cons d .nil))), X, c, G, F, e, h => by
    simp only [chkE] at h
    split at h
    · rename_i fn r p hv
      obtain ⟨h1, h2⟩ := and2 h
      obtain rfl := vCall_ok hv
      obtain ⟨p, rfl, hg, _⟩ := named_ok F h1
      split at h2
      · rename_i fn2 args p2 hv2
        obtain ⟨h2, h3⟩ := and2 h2
        obtain ⟨h3, h4⟩ := and2 h3
        obtain rfl := vCall_ok hv2
        obtain ⟨p3, rfl, hgr, _⟩ := named_ok F h2
        have h3 := of_decide_eq_true h3
        cases args with
        | nil => simp [chkL] at h4
        | cons x args =>
          cases args with
          | nil => simp [chkL] at h4
          | cons y args =>
            cases args with
            | nil => simp [chkL] at h4
            | cons z args =>
              simp only [chkL] at h4
              obtain ⟨k1, k2⟩ := and2 h4
              obtain ⟨k3, k4⟩ := and2 k2
              obtain ⟨k5, k6⟩ := and2 k4
              obtain ⟨k7, k8⟩ := and2 k6
              obtain ⟨k9, k10⟩ := and2 k8
              obtain ⟨k11, k12⟩ := and2 k10
              cases args with
              | cons _ _ => simp at k12
              | nil => exact both (s_lrg3 (gl := evL Φ c.md (.cons a (.cons b (.cons d .nil)))) F hg hgr k1 k5 k9 (fun e rs e1 z => by rw [evL_len z]; rfl) (s_cons k1 (soundE a F k3).1 (s_cons k5 (soundE b F k7).1 (s_cons k9 (soundE d F k11).1 s_nil)))) rfl
      · cases h2
    · cases h
  | .lrg (.cons a (.cons b (.cons d (.cons e1 r)))), X, c, G, F, e, h => by
    simp only [chkE] at h
    split at h
    · rename_i fn r p hv
      obtain ⟨h1, h2⟩ := and2 h
      obtain rfl := vCall_ok hv
      obtain ⟨p, rfl, hg, _⟩ := named_ok F h1
      split at h2
      · rename_i fn2 args p2 hv2
        obtain ⟨h2, h3⟩ := and2 h2
        obtain ⟨h3, h4⟩ := and2 h3
        obtain rfl := vCall_ok hv2
        obtain ⟨p3, rfl, hgr, _⟩ := named_ok F h2
        have h3 := of_decide_eq_true h3
        obtain ⟨hlen, _⟩ := chkL_len h4
        simp only [exsLen] at hlen
        omega
      · cases h2
    · cases h
  | .trg .nil, X, c, G, F, e, h => by
    simp only [chkE] at h
    split at h
    · rename_i fn r p hv
      obtain ⟨h1, h2⟩ := and2 h
      obtain rfl := vCall_ok hv
      obtain ⟨p, rfl, hg, _⟩ := named_ok F h1
      split at h2
      · rename_i fn2 args p2 hv2
        obtain ⟨h2, h3⟩ := and2 h2
        obtain ⟨h3, h4⟩ := and2 h3
        obtain rfl := vCall_ok hv2
        obtain ⟨p3, rfl, hgr, _⟩ := named_ok F h2
        have h3 := of_decide_eq_true h3
        obtain ⟨hlen, _⟩ := chkL_len h4
        simp [exsLen] at hlen
        subst hlen
        simp at h3
      · cases h2
    · cases h
  | .trg (.cons a .nil), X, c, G, F, e, h => by
    simp only [chkE] at h
    split at h
    · rename_i fn r p hv
      obtain ⟨h1, h2⟩ := and2 h
      obtain rfl := vCall_ok hv
      obtain ⟨p, rfl, hg, _⟩ := named_ok F h1
      split at h2
      · rename_i fn2 args p2 hv2
        obtain ⟨h2, h3⟩ := and2 h2
        obtain ⟨h3, h4⟩ := and2 h3
        obtain rfl := vCall_ok hv2
        obtain ⟨p3, rfl, hgr, _⟩ := named_ok F h2
        have h3 := of_decide_eq_true h3
        cases args with
        | nil => simp [chkL] at h4
        | cons x args =>
          simp only [chkL] at h4
          obtain ⟨k1, k2⟩ := and2 h4
          obtain ⟨k3, k4⟩ := and2 k2
          cases args with
          | cons _ _ => simp at k4
          | nil => exact both (s_trg1 F hg hgr k1 (soundE a F k3).1) rfl
      · cases h2
    · cases h
  | .trg (.cons a (.cons b .nil)), X, c, G, F, e, h => by
    simp only [chkE] at h
    split at h
    · rename_i fn r p hv
      obtain ⟨h1, h2⟩ := and2 h
      obtain rfl := vCall_ok hv
      obtain ⟨p, rfl, hg, _⟩ := named_ok F h1
      split at h2
      · rename_i fn2 args p2 hv2
        obtain ⟨h2, h3⟩ := and2 h2
        obtain ⟨h3, h4⟩ := and2 h3
        obtain rfl := vCall_ok hv2
        obtain ⟨p3, rfl, hgr, _⟩ := named_ok F h2
        have h3 := of_decide_eq_true h3
        cases args with
        | nil => simp [chkL] at h4
        | cons x args =>
          cases args with
          | nil => simp [chkL] at h4
          | cons y args =>
            simp only [chkL] at h4
            obtain ⟨k1, k2⟩ := and2 h4
            obtain ⟨k3, k4⟩ := and2 k2
            obtain ⟨k5, k6⟩ := and2 k4
            obtain ⟨k7, k8⟩ := and2 k6
            cases args with
            | cons _ _ => simp at k8
            | nil => exact both (s_trg2 F hg hgr k1 k5 (soundE a F k3).1 (soundE b F k7).1) rfl
      · cases h2
    · cases h
  | .trg (.cons a (.cons b (.cons d r))), X, c, G, F, e, h => by
    simp only [chkE] at h
    split at h
    · rename_i fn r p hv
      obtain ⟨h1, h2⟩ := and2 h
      obtain rfl := vCall_ok hv
      obtain ⟨p, rfl, hg, _⟩ := named_ok F h1
      split at h2
      · rename_i fn2 args p2 hv2
        obtain ⟨h2, h3⟩ := and2 h2
        obtain ⟨h3, h4⟩ := and2 h3
        obtain rfl := vCall_ok hv2
        obtain ⟨p3, rfl, hgr, _⟩ := named_ok F h2
        have h3 := of_decide_eq_true h3
        obtain ⟨hlen, _⟩ := chkL_len h4
        simp only [exsLen] at hlen
        omega
      · cases h2
    · cases h
  | .slp a lo hi st, X, c, G, F, e, h => by
    simp only [chkE] at h
    split at h
    · rename_i x y hv
      obtain ⟨h1, h2⟩ := and2 h
      obtain ⟨p, rfl⟩ := vSub_ok hv
      split at h2
      · rename_i l u s hs
        obtain ⟨h2, h3⟩ := and2 h2
        obtain ⟨h3, h4⟩ := and2 h3
        obtain ⟨p2, rfl⟩ := vSlice3_ok hs
        exact both (s_slp F.K (soundE a F h1).1 (soundO lo F h2) (soundO hi F h3) (soundO st F h4)) rfl
      · cases h2
    · cases h
  | .isb ng a b, X, c, G, F, e, h => by
    simp only [chkE] at h
    split at h
    · rename_i l op r hv
      obtain ⟨h1, h2⟩ := and2 h
      obtain ⟨h2, h3⟩ := and2 h2
      obtain ⟨h3, h4⟩ := and2 h3
      obtain ⟨p, rfl⟩ := vCmp_ok hv
      cases ng with
      | true =>
        obtain rfl := isIsNot_ok h1
        exact ⟨s_isb true h2 (soundE a F h3).1 (soundE b F h4).1, s_isbT true h2 (soundE a F h3).1 (soundE b F h4).1⟩
      | false =>
        obtain rfl := isIs_ok h1
        exact ⟨s_isb false h2 (soundE a F h3).1 (soundE b F h4).1, s_isbT false h2 (soundE a F h3).1 (soundE b F h4).1⟩
    · cases h
  | .isi a t, X, c, G, F, e, h => by
    simp only [chkE] at h
    split at h
    · rename_i fn x y p hv
      obtain ⟨h1, h2⟩ := and2 h
      obtain ⟨h2, h3⟩ := and2 h2
      obtain ⟨h3, h4⟩ := and2 h3
      obtain rfl := vCall_ok hv
      obtain ⟨p, rfl, hg, _⟩ := named_ok F h1
      obtain ⟨p2, rfl, hgt, _⟩ := named_ok F h2
      exact both (s_isi F t hg hgt h3 (soundE a F h4).1) rfl
    · cases h
  | .mth m a es, X, c, G, F, e, h => by
    simp only [chkE] at h
    split at h
    · rename_i fn x args p hv
      split at h
      · rename_i o n ap hv2
        obtain ⟨h1, h2⟩ := and2 h
        obtain ⟨h2, h3⟩ := and2 h2
        obtain ⟨h3, h4⟩ := and2 h3
        obtain ⟨h4, h5⟩ := and2 h4
        obtain ⟨h5, h6⟩ := and2 h5
        obtain rfl := vCall_ok hv
        obtain rfl := vAttr_ok hv2
        obtain rfl := of_decide_eq_true h1
        obtain ⟨_, hpe⟩ := chkL_len h6
        obtain ⟨hpa, hpe⟩ := and2 (show (plainX x && args.all plainX) = true from hpe)
        exact both (s_mth F m h2 hpa hpe (of_decide_eq_true h3) h4 (soundE a F h5).1 (soundL es F h6)) rfl
      · cases h
    · cases h
  | .mut m a es, X, c, G, F, e, h => by
    simp only [chkE] at h
    split at h
    · rename_i fn args p hv
      split at h
      · rename_i o n ap hv2
        obtain ⟨h1, h2⟩ := and2 h
        obtain ⟨h2, h3⟩ := and2 h2
        obtain ⟨h3, h4⟩ := and2 h3
        obtain ⟨h4, h5⟩ := and2 h4
        obtain ⟨h5, h6⟩ := and2 h5
        obtain ⟨h6, h7⟩ := and2 h6
        obtain rfl := vCall_ok hv
        obtain rfl := vAttr_ok hv2
        obtain rfl := of_decide_eq_true h1
        have h3 := of_decide_eq_true h3
        obtain ⟨hlen, hpe⟩ := chkL_len h7
        exact both (soundMut m es F.K h2 h3 hlen hpe (of_decide_eq_true h4) h5 (soundE a F h6).1 (soundL es F h7)) rfl
      · cases h
    · cases h
  | .call f es, X, c, G, F, e, h => by
    simp only [chkE] at h
    split at h
    · rename_i fn args p hv
      split at h
      · rename_i x hv2
        obtain ⟨h1, h2⟩ := and2 h
        obtain ⟨h2, h3⟩ := and2 h2
        obtain ⟨h3, h4⟩ := and2 h3
        obtain ⟨h4, h5⟩ := and2 h4
        obtain rfl := vCall_ok hv
        obtain ⟨p2, rfl⟩ := vName_ok hv2
        obtain ⟨hg, hdb⟩ := glB_ok F h3
        obtain ⟨hlen, hpe⟩ := chkL_len h5
        exact both (soundCallG es F (fun g p f k => callV_read g p f k) (of_decide_eq_true h1) (of_decide_eq_true h2) hg hdb (of_decide_eq_true h4) hlen hpe (soundL es F h5)) (by cases args <;> rfl)
      · cases h
    · cases h
  | .callK f es kes pm, X, c, G, F, e, h => by
    simp only [chkE] at h
    split at h
    · rename_i fn args kws p hv
      split at h
      · rename_i x ks hv2 hks
        obtain ⟨h1, h2⟩ := and2 h
        obtain ⟨h2, h3⟩ := and2 h2
        obtain ⟨h3, h4⟩ := and2 h3
        obtain ⟨h4, h5⟩ := and2 h4
        obtain ⟨h5, h6⟩ := and2 h5
        obtain rfl := vCall_ok hv
        obtain ⟨p2, rfl⟩ := vName_ok hv2
        obtain ⟨hg, hdb⟩ := glB_ok F h3
        obtain ⟨hlen, hpe⟩ := chkL_len h5
        have hlk := chkK_len h6
        obtain ⟨n1, n2, n3, n4⟩ := of_decide_eq_true h4
        have hnil : args = [] → evL Φ c.md es = fun e => .ok [] e := fun z => by
          subst z
          cases es with
          | nil => funext e; rw [evL]
          | cons a r => simp [chkL] at h5
        exact both (s_callK F (fun g p f k => callV_read g p f k) (of_decide_eq_true h1) (of_decide_eq_true h2) hg hdb hpe hks n1 n2 n3 n4 (soundL es F h5) (soundK kes F h6) (fun e rs e1 h => by rw [evL_len h, hlen]) (fun e rs e1 h => by rw [evL_len h, kwNames_len hks, hlk]) hnil) rfl
      · cases h
    · cases h
  | .lc s tg own ts elt, X, c, G, F, e, h => by
    simp only [chkE] at h
    split at h
    · rename_i el t i fs sc p hv
      obtain ⟨h1, h2⟩ := and2 h
      obtain ⟨h2, h3⟩ := and2 h2
      obtain ⟨h3, h4⟩ := and2 h3
      obtain ⟨h4, h5⟩ := and2 h4
      obtain ⟨h5, h6⟩ := and2 h5
      obtain ⟨h6, h7⟩ := and2 h6
      obtain ⟨h7, h8⟩ := and2 h7
      obtain ⟨h8, h9⟩ := and2 h8
      obtain rfl := vLc_ok hv
      exact both (s_lc F (of_decide_eq_true h1).1 (of_decide_eq_true h1).2 (of_decide_eq_true h2) h3 h4 (soundI s F h5) h6 (fun s' H C cl fp => soundTs ts (F.blk s' H sc C cl fp) (of_decide_eq_true h7) h8) (fun s' H C cl fp => (soundE elt (F.blk s' H sc C cl fp) h9).1)) rfl
    · cases h
  | .callB f es, X, c, G, F, e, h => by
    simp only [chkE] at h
    split at h
    · rename_i fn args p hv
      split at h
      · rename_i x hv2
        obtain ⟨h1, h2⟩ := and2 h
        obtain ⟨h2, h3⟩ := and2 h2
        obtain ⟨h3, h4⟩ := and2 h3
        obtain ⟨h4, h5⟩ := and2 h4
        obtain rfl := vCall_ok hv
        obtain ⟨p2, rfl⟩ := vName_ok hv2
        obtain ⟨hg, hdb⟩ := glB_ok F h3
        obtain ⟨hlen, hpe⟩ := chkL_len h5
        exact both (soundCallG es F (fun g p f k => callB_read g p f k) (of_decide_eq_true h1) (of_decide_eq_true h2) hg hdb (of_decide_eq_true h4) hlen hpe (soundL es F h5)) (by cases args <;> rfl)
      · cases h
    · cases h
  | .callKB f es kes pm, X, c, G, F, e, h => by
    simp only [chkE] at h
    split at h
    · rename_i fn args kws p hv
      split at h
      · rename_i x ks hv2 hks
        obtain ⟨h1, h2⟩ := and2 h
        obtain ⟨h2, h3⟩ := and2 h2
        obtain ⟨h3, h4⟩ := and2 h3
        obtain ⟨h4, h5⟩ := and2 h4
        obtain ⟨h5, h6⟩ := and2 h5
        obtain rfl := vCall_ok hv
        obtain ⟨p2, rfl⟩ := vName_ok hv2
        obtain ⟨hg, hdb⟩ := glB_ok F h3
        obtain ⟨hlen, hpe⟩ := chkL_len h5
        have hlk := chkK_len h6
        obtain ⟨n1, n2, n3, n4⟩ := of_decide_eq_true h4
        have hnil : args = [] → evL Φ c.md es = fun e => .ok [] e := fun z => by
          subst z
          cases es with
          | nil => funext e; rw [evL]
          | cons a r => simp [chkL] at h5
        exact both (s_callK F (fun g p f k => callB_read g p f k) (of_decide_eq_true h1) (of_decide_eq_true h2) hg hdb hpe hks n1 n2 n3 n4 (soundL es F h5) (soundK kes F h6) (fun e rs e1 h => by rw [evL_len h, hlen]) (fun e rs e1 h => by rw [evL_len h, kwNames_len hks, hlk]) hnil) rfl
      · cases h
    · cases h
  | .srk a, X, c, G, F, e, h => by
    simp only [chkE] at h
    split at h
    · rename_i fn x ks p hv
      obtain ⟨h1, k1⟩ := and2 h
      obtain ⟨k2, k3⟩ := and2 k1
      clear k1 h
      obtain ⟨h3, h4⟩ := and2 k3
      obtain rfl := vCall_ok hv
      obtain ⟨p1, rfl, hg, _⟩ := named_ok F h1
      split at k2
      · rename_i y hk
        obtain ⟨kp, rfl⟩ := vKey_ok hk
        obtain ⟨p2, rfl, hgl, _⟩ := named_ok F k2
        exact both (s_srk F hg hgl h3 (soundE a F h4).1) rfl
      · cases k2
    · cases h
  | .lc2 s tg own s1 tg1 own1 elt, X, c, G, F, e, h => by
    simp only [chkE] at h
    split at h
    · rename_i el t i t1 i1 sc hv
      obtain ⟨h1, h2⟩ := and2 h
      obtain ⟨h2, h3⟩ := and2 h2
      obtain ⟨h3, h4⟩ := and2 h3
      obtain ⟨h4, h5⟩ := and2 h4
      obtain ⟨h5, h6⟩ := and2 h5
      obtain ⟨h6, h7⟩ := and2 h6
      obtain ⟨h7, h8⟩ := and2 h7
      obtain ⟨h8, h9⟩ := and2 h8
      obtain ⟨h9, h10⟩ := and2 h9
      obtain ⟨o1, o2, o3, o4⟩ := of_decide_eq_true h1
      obtain ⟨p, rfl⟩ := vLc2_ok hv
      exact both (s_lc2 F o1 o2 o3 o4 (of_decide_eq_true h2) h3 h4 h5 (soundI s F h6) h7 h8 (fun s' H C cl fp => soundI s1 (F.blk s' H sc C cl fp) h9) (fun s' H C cl fp => (soundE elt (F.blk s' H sc C cl fp) h10).1)) rfl
    · cases h
  | .kdi ng x K a, X, c, G, F, e, h => by
    simp only [chkE] at h
    split at h
    · rename_i l op r hv
      obtain ⟨h1, h2⟩ := and2 h
      obtain ⟨h2, h3⟩ := and2 h2
      obtain ⟨h3, h4⟩ := and2 h3
      obtain ⟨p, rfl⟩ := vCmp_ok hv
      obtain rfl := isInA_ok h1
      obtain ⟨p2, rfl, hg, hdb⟩ := named_ok F h2
      obtain ⟨dd, k1, k2⟩ := kdC_ok h3
      exact s_kdi F ng k1 k2 hg hdb (soundE a F h4).1
    · cases h
  | .kdx x K a, X, c, G, F, e, h => by
    simp only [chkE] at h
    split at h
    · rename_i o y hv
      obtain ⟨h1, h2⟩ := and2 h
      obtain ⟨h2, h3⟩ := and2 h2
      obtain ⟨h3, h4⟩ := and2 h3
      obtain ⟨p, rfl⟩ := vSub_ok hv
      obtain ⟨p2, rfl, hg, hdb⟩ := named_ok F h1
      obtain ⟨dd, k1, k2⟩ := kdC_ok h2
      exact both (s_kdx F k1 k2 hg hdb h3 (soundE a F h4).1) rfl
    · cases h
  | .fmt a, X, c, G, F, e, h => by
    simp only [chkE] at h
    split at h
    · rename_i x hv
      obtain ⟨p, rfl⟩ := vFmt_ok hv
      exact both (s_fmt (soundE a F h).1) rfl
    · cases h
  | .jn es, X, c, G, F, e, h => by
    simp only [chkE] at h
    split at h
    · rename_i vs hv
      obtain ⟨h1, h2⟩ := and2 h
      obtain ⟨p, rfl⟩ := vJoin_ok hv
      exact both (s_jn (of_decide_eq_true h1) (soundJ es F h2)) rfl
    · cases h
  | .isx i ks tup, X, c, G, F, e, h => by
    simp only [chkE] at h
    split at h
    · rename_i fn o cl p hv
      obtain ⟨h1, u1⟩ := and2 h
      obtain ⟨h2, u2⟩ := and2 u1
      obtain ⟨h3, h4⟩ := and2 u2
      obtain rfl := vCall_ok hv
      obtain ⟨p1, rfl, hg, _⟩ := named_ok F h1
      have ho := s_nameV F h3
      have eq : evE Φ c.md (.isx i ks tup) = semIsx i ks := by funext e; rw [evE]; rfl
      clear u1 u2 h
      split at h4
      · split at h4
        · rename_i es hes
          obtain ⟨h5, h6⟩ := and2 h4
          obtain ⟨tk, tp, rfl⟩ := vTup_ok hes
          obtain ⟨cvs, us, hc⟩ := clsBs_ok F h6
          exact both (by rw [eq]; exact s_isx2 F (F.ghB (name_gh h3)) hg ho h2 (of_decide_eq_true h5) hc) rfl
        · cases h4
      · split at h4
        · rename_i k
          obtain ⟨h5, h6⟩ := and2 h4
          obtain ⟨cv, u, hc⟩ := clsB_ok F h6
          exact both (by rw [eq]; exact s_isx1 F (F.ghB (name_gh h3)) hg ho h2 h5 hc) rfl
        · cases h4
    · cases h
  | .xno ng i, X, c, G, F, e, h => by
    simp only [chkE] at h
    split at h
    · rename_i l op r hv
      obtain ⟨h1, u1⟩ := and2 h
      obtain ⟨h2, h3⟩ := and2 u1
      obtain ⟨p, rfl⟩ := vCmp_ok hv
      obtain ⟨kk, p2, rfl⟩ := vConst_ok (isCNone_ok h2)
      have ho := s_nameV F h3
      have eq : evE Φ c.md (.xno ng i) = semXno ng i := by funext e; rw [evE]; rfl
      unfold Snd
      rw [eq]
      cases op <;> simp [isIsOp] at h1
      · subst h1; exact s_xno (F.ghB (name_gh h3)) ho
      · subst h1; exact s_xnn (F.ghB (name_gh h3)) ho
    · cases h
  | .xfl i f cs, X, c, G, F, e, h => by
    simp only [chkE] at h
    split at h
    · rename_i o g p hv
      obtain ⟨h1, u1⟩ := and2 h
      obtain ⟨h2, h3⟩ := and2 u1
      obtain rfl := of_decide_eq_true h1
      obtain rfl := vAttr_ok hv
      obtain ⟨y, q, rfl, _⟩ := name_ok h2
      have ho := s_nameV F h2
      have eq : evE Φ c.md (.xfl i g cs) = semXfl i cs := by funext e; rw [evE]; rfl
      have hq : ∀ k ∈ cs, ∃ z, c.xs.lookup z = some ⟨k, some g⟩ := fun k hk => by
        obtain ⟨pp, _, hp⟩ := List.any_eq_true.mp (List.all_eq_true.mp h3 k hk)
        exact ⟨pp.1, of_decide_eq_true hp⟩
      exact both (by rw [eq]; exact s_xfl F (F.ghB (name_gh h2)) ho hq) rfl
    · cases h
  | .dc0, X, c, G, F, e, h => by
    simp only [chkE] at h
    obtain ⟨p, rfl⟩ := isDc0_ok h
    exact both s_dc0 rfl
  | .callI fns a es, X, c, G, F, e, h => by
    simp only [chkE] at h
    split at h
    · rename_i xs ix args hv
      obtain ⟨h1, u1⟩ := and2 h
      obtain ⟨h2, u2⟩ := and2 u1
      obtain ⟨h3, u3⟩ := and2 u2
      obtain ⟨h4, u4⟩ := and2 u3
      obtain ⟨h5, u5⟩ := and2 u4
      obtain ⟨h6, h7⟩ := and2 u5
      obtain ⟨l, p, p2, p3, hn, rfl⟩ := vCallI_ok hv
      obtain ⟨l1, l2⟩ := of_decide_eq_true h1
      obtain ⟨hlen, hpe⟩ := chkL_len h7
      have hps : ∀ fn ∈ fns, (c.ps fn).length = (c.md fn).length ∧ args.length = (c.ps fn).length := fun fn hfn => of_decide_eq_true (List.all_eq_true.mp h3 fn hfn)
      cases args with
      | nil => exact absurd rfl (of_decide_eq_true h4)
      | cons b bs =>
        obtain ⟨q1, q2⟩ := and2 (show (plainX b && bs.all plainX) = true from hpe)
        exact both (s_callI F (cs := fun fn rs e1 => callV Φ fn (c.md fn) rs e1) (fun fn hfn => fun g p f k => callV_read g p f k) hn l1 (fun j x fn hx hf => by
          have hm : (x, fn) ∈ xs.zip fns := List.mem_of_getElem? (i := j) (by rw [List.getElem?_zip_eq_some]; exact ⟨hx, hf⟩)
          obtain ⟨z1, z2⟩ := and2 (List.all_eq_true.mp h2 _ hm)
          exact ⟨of_decide_eq_true z1, glB_ok F z2⟩) (fun fn hfn => (hps fn hfn).1) l2 h5 q1 q2 (soundE a F h6).1 (soundL es F h7)) rfl
    · cases h
  | .atr j i x, X, c, G, F, e, h => by
    simp only [chkE] at h
    split at h
    · rename_i o g p hv
      obtain ⟨h1, u1⟩ := and2 h
      obtain ⟨h2, u2⟩ := and2 u1
      obtain ⟨h3, h4⟩ := and2 u2
      obtain rfl := vAttr_ok hv
      obtain rfl := of_decide_eq_true h1
      obtain ⟨cn, q1, q2⟩ := atQ_ok h4
      exact both (s_atr F h3 (s_nameV F h3) h2 q1 q2) rfl
    · cases h
  | .obj i j, X, c, G, F, e, h => by
    simp only [chkE] at h
    obtain ⟨h1, h2⟩ := and2 h
    obtain ⟨x, cn, q⟩ := obQ_ok h2
    have pe := s_obj F h1 (s_nameV F h1) q
    obtain ⟨y, p, rfl, _⟩ := name_ok h1
    exact both pe rfl
  | .callQ w f .nil gs, X, c, G, F, e, h => by
    simp [chkE] at h
  | .callQ w f (.cons a r) gs, X, c, G, F, e, h => soundQ F h (fun h => soundE a F h) (fun h => soundL r F h) (fun h => soundK r F h)
theorem soundJ : ∀ (es : Exs) {X : Cx} {c : Cc} {G : Gx} (F : Fit X c G Φ) {l : List Expr}, chkL es c l = true → SJ X G l fun acc e => evJ Φ c.md es e acc
  | .nil, X, c, G, F, l, h => by
    simp only [chkL] at h
    cases l with
    | nil => exact sj_nil
    | cons _ _ => simp at h
  | .cons a r, X, c, G, F, l, h => by
    cases l with
    | nil => simp [chkL] at h
    | cons e l =>
      simp only [chkL] at h
      obtain ⟨h1, h2⟩ := and2 h
      obtain ⟨h2, h3⟩ := and2 h2
      exact sj_cons (soundE a F h2).1 (soundJ r F h3)
theorem soundL : ∀ (es : Exs) {X : Cx} {c : Cc} {G : Gx} (F : Fit X c G Φ) {l : List Expr}, chkL es c l = true → PA X l (tL G (evL Φ c.md es))
  | .nil, X, c, G, F, l, h => by
    simp only [chkL] at h
    cases l with
    | nil => exact s_nil
    | cons _ _ => simp at h
  | .cons a r, X, c, G, F, l, h => by
    cases l with
    | nil => simp [chkL] at h
    | cons e l =>
      simp only [chkL] at h
      obtain ⟨h1, h2⟩ := and2 h
      obtain ⟨h2, h3⟩ := and2 h2
      exact s_cons h1 (soundE a F h2).1 (soundL r F h3)
theorem soundB : ∀ (k : Bool) (es : Exs) {X : Cx} {c : Cc} {G : Gx} (F : Fit X c G Φ) {l : List Expr} {p : Pos}, chkL es c l = true → PE X (.BoolOp (bopA k) l p) (tE G (evB Φ c.md k es)) ∧ PW X (.BoolOp (bopA k) l p) (tT G fun e => asT (evB Φ c.md k es e))
  | k, .nil, X, c, G, F, l, p, h => ⟨⟨fun pins s σ H Q I ⟨τ, hτ, S, e, rel, lnk, z⟩ => by rw [evB] at z; exact z.elim⟩, ⟨fun wh pins s σ H Q I ⟨τ, hτ, S, e, rel, lnk, z⟩ => by simp only [evB, asT] at z; exact z.elim⟩⟩
  | k, .cons a .nil, X, c, G, F, l, p, h => by
    cases l with
    | nil => simp [chkL] at h
    | cons e l =>
      simp only [chkL] at h
      obtain ⟨k1, k2⟩ := and2 h
      obtain ⟨k3, k4⟩ := and2 k2
      cases l with
      | nil =>
        obtain ⟨q1, q2⟩ := soundE a F k3
        exact ⟨s_b1 k q1, s_b1W k q2⟩
      | cons _ _ => simp at k4
  | k, .cons a (.cons b r), X, c, G, F, l, p, h => by
    cases l with
    | nil => simp [chkL] at h
    | cons e l =>
      have h0 := h
      simp only [chkL] at h0
      obtain ⟨k1, k2⟩ := and2 h0
      obtain ⟨k3, k4⟩ := and2 k2
      cases l with
      | nil => simp at k4
      | cons e2 l =>
        obtain ⟨q1, q2⟩ := soundE a F k3
        obtain ⟨r1, r2⟩ := soundB k (.cons b r) F (l := e2 :: l) (p := p) (by simpa only [chkL] using k4)
        exact ⟨s_b2 k q1 r1, s_b2W k q2 r2⟩
theorem soundO : ∀ (es : Exs) {X : Cx} {c : Cc} {G : Gx} (F : Fit X c G Φ) {o : Option Expr}, chkO es c o = true → PO X o (tP G (evL Φ c.md es))
  | .nil, X, c, G, F, o, h => by
    simp only [chkO] at h
    cases o with
    | none => exact s_po_none
    | some _ => simp at h
  | .cons a .nil, X, c, G, F, o, h => by
    cases o with
    | none => simp [chkO] at h
    | some e =>
      simp only [chkO] at h
      exact s_po_some (soundE a F h).1
  | .cons _ (.cons _ _), X, c, G, F, o, h => by simp [chkO] at h
theorem soundK : ∀ (es : Exs) {X : Cx} {c : Cc} {G : Gx} (F : Fit X c G Φ) {l : List Keyword}, chkK es c l = true → PK X l (tL G (evL Φ c.md es))
  | .nil, X, c, G, F, l, h => by
    simp only [chkK] at h
    cases l with
    | nil => exact s_knil
    | cons _ _ => simp at h
  | .cons a r, X, c, G, F, l, h => by
    cases l with
    | nil => simp [chkK] at h
    | cons e l =>
      obtain ⟨n, v, p⟩ := e
      simp only [chkK] at h
      obtain ⟨h1, h2⟩ := and2 h
      exact s_kcons (soundE a F h1).1 (soundK r F h2)
theorem soundI : ∀ (s : Src) {X : Cx} {c : Cc} {G : Gx} (F : Fit X c G Φ) {t i : Expr}, chkI s c t i = true → PI X t i (tI G (evI Φ c.md s))
  | .it true true a, X, c, G, F, t, i, h => by simp [chkI] at h
  | .it true false a, X, c, G, F, t, i, h => by
    simp only [chkI] at h
    exact s_it_tup F.K (soundE a F (and2 h).2).1
  | .it false brw a, X, c, G, F, t, i, h => by
    simp only [chkI] at h
    exact s_it_list F.K (soundE a F (and2 h).2).1
  | .rng es, X, c, G, F, t, i, h => by
    simp only [chkI] at h
    split at h
    · rename_i fn args p hv
      obtain ⟨h1, h2⟩ := and2 h
      obtain ⟨h2, h3⟩ := and2 h2
      obtain rfl := vCall_ok hv
      obtain ⟨p, rfl, hg, _⟩ := named_ok F h1
      obtain ⟨hlen, hpe⟩ := chkL_len h3
      exact s_rng F hg (of_decide_eq_true h2) hpe (fun e rs e1 z => by rw [evL_len z, hlen]) (soundL es F h3)
    · cases h
  | .enu brw a, X, c, G, F, t, i, h => by
    simp only [chkI] at h
    obtain ⟨h1, h2⟩ := and2 h
    split at h2
    · rename_i fn x p hv
      obtain ⟨h2, h3⟩ := and2 h2
      obtain ⟨h3, h4⟩ := and2 h3
      obtain rfl := vCall_ok hv
      obtain ⟨p, rfl, hg, _⟩ := named_ok F h2
      obtain ⟨es, he⟩ := Option.isSome_iff_exists.mp h1
      obtain ⟨k, q, rfl⟩ := vTup_ok he
      exact s_enu F hg h3 (soundE a F h4).1
    · cases h2
  | .rvt a, X, c, G, F, t, i, h => by
    simp only [chkI] at h
    split at h
    · rename_i fn x p hv
      obtain ⟨h1, h2⟩ := and2 h
      obtain ⟨h2, h3⟩ := and2 h2
      obtain rfl := vCall_ok hv
      obtain ⟨p, rfl, hg, _⟩ := named_ok F h1
      exact s_rvt F hg h2 (soundE a F h3).1
    · cases h
  | .chs a, X, c, G, F, t, i, h => by
    simp only [chkI] at h
    exact s_chs (soundE a F h).1
  | .zip a b, X, c, G, F, t, i, h => by
    simp only [chkI] at h
    obtain ⟨h1, h2⟩ := and2 h
    split at h2
    · rename_i fn x y p hv
      obtain ⟨h2, h3⟩ := and2 h2
      obtain ⟨h3, h4⟩ := and2 h3
      obtain ⟨h4, h5⟩ := and2 h4
      obtain ⟨h5, h6⟩ := and2 h5
      obtain rfl := vCall_ok hv
      obtain ⟨p, rfl, hg, _⟩ := named_ok F h2
      obtain ⟨es, he⟩ := Option.isSome_iff_exists.mp h1
      obtain ⟨k, q, rfl⟩ := vTup_ok he
      exact s_zip F hg h3 h4 (soundE a F h5).1 (soundE b F h6).1
    · cases h2
theorem soundTs : ∀ (es : Exs) {X : Cx} {c : Cc} {G : Gx} (F : Fit X c G Φ) {l : List Expr}, l.length < 2 → chkL es c l = true → PTs X l (tT G (evTs Φ c.md es))
  | .nil, X, c, G, F, l, hl, h => by
    simp only [chkL] at h
    cases l with
    | nil => exact s_evTs0
    | cons _ _ => simp at h
  | .cons a r, X, c, G, F, l, hl, h => by
    cases l with
    | nil => simp [chkL] at h
    | cons e l =>
      cases l with
      | cons _ _ => simp at hl; omega
      | nil =>
        simp only [chkL] at h
        obtain ⟨k1, k2⟩ := and2 h
        obtain ⟨k3, k4⟩ := and2 k2
        cases r with
        | cons _ _ => simp [chkL] at k4
        | nil => exact s_evTs1 (soundE a F k3).2
end
end
end Vc
end
section
set_option Elab.async false
set_option linter.all false
namespace Vc
open PySem PySem.Spec PyProof.Rows L2
variable [XrC]
/-- from one state of a body to a later one: the slots at pr stay the same things -/
structure SG (G : Gx) (pr : List Nat) (S H : Hp) (σ : L2.St) (e : En) (S' H' : Hp) (σ' : L2.St) (e' : En) : Prop where
  g : Grow G.K S H σ e S' H' σ' e'
  pr : ∀ i : Nat, i ∈ pr → i ∉ G.nw → σ'[i]? = σ[i]?
  len : σ'.length = σ.length
  lk : Lk G σ S → Lk G σ' S'
section
variable {G : Gx} {pr : List Nat} {S S' S'' H H' H'' : Hp} {σ σ' σ'' : L2.St} {e e' e'' : En}
theorem Grow.sg (g : Grow G.K S H σ e S' H' σ e') : SG G pr S H σ e S' H' σ e' := ⟨g, fun _ _ _ => rfl, rfl, fun h => h.mono g.sub⟩
theorem SG.trans (a : SG G pr S H σ e S' H' σ' e') (b : SG G pr S' H' σ' e' S'' H'' σ'' e'') : SG G pr S H σ e S'' H'' σ'' e'' :=
  ⟨a.g.trans b.g, fun i hi n => (b.pr i hi n).trans (a.pr i hi n), b.len.trans a.len, fun h => b.lk (a.lk h)⟩
/-- the slots of attributes and of objects are among those that stay -/
def GP (G : Gx) (pr : List Nat) : Prop := ∀ q ∈ G.gh, q.1 ∈ pr ∧ q.2.1 ∈ pr
theorem GP.out (gp : GP G pr) {i : Nat} (h : i ∉ pr) : i ∉ G.gh.map (·.1) ∧ i ∉ G.gh.map (·.2.1) := ⟨fun w => by
    obtain ⟨q, hq, rfl⟩ := List.mem_map.mp w
    exact h (gp q hq).1, fun w => by
    obtain ⟨q, hq, rfl⟩ := List.mem_map.mp w
    exact h (gp q hq).2⟩
theorem Lk.sameAt {σ σ' : L2.St} {S : Hp} (gp : GP G pr) (h : ∀ i : Nat, i ∈ pr → σ'[i]? = σ[i]?) (l : Lk G σ S) : Lk G σ' S := fun q hq v hv => by
  rw [h _ (gp q hq).1] at hv
  obtain ⟨p, C, dx, fs, q1, q2, q3⟩ := l q hq v hv
  exact ⟨p, C, dx, fs, q1, by rw [h _ (gp q hq).2]; exact q2, q3⟩
/-- a step that leaves the slots at pr -/
theorem SG.of (gp : GP G pr) (g : Grow G.K S H σ e S' H' σ' e') (h : ∀ i : Nat, i ∈ pr → σ'[i]? = σ[i]?) (l : σ'.length = σ.length) : SG G pr S H σ e S' H' σ' e' := ⟨g, fun i hi _ => h i hi, l, fun k => (k.mono g.sub).sameAt gp h⟩
theorem Frs.backS {K : Fg} {r : RV} {x : V} (g : Grow K S H σ e S' H' σ' e') (h : Frs H' σ' e' r x) : Frs H σ e r x := by
  cases r with
  | v d => trivial
  | b i => trivial
  | o ds =>
    intro a ha
    rcases h a ha with w | w
    · exact g.new w
    · exact (g.own a w).symm
end
section
variable (G : Gx) (pr : List Nat) (S H : Hp) (σ : L2.St) (e : En)
def PO (D : Ends) : O → Prop
  | .st => False
  | .nx e' => ∀ σ' S' H', SG G pr S H σ e S' H' σ' e' → D.nx (base G σ') H'
  | .rt r e' => ∀ x σ' S' H', SG G pr S H σ e S' H' σ' e' → RepR G.K S' H' σ' e' r x → Frs H σ e r x → D.rt x H'
  | .bk e' => ∀ σ' S' H', SG G pr S H σ e S' H' σ' e' → D.bk (base G σ') H'
  | .ct e' => ∀ σ' S' H', SG G pr S H σ e S' H' σ' e' → D.ct (base G σ') H'
  | .ex x e' => ∀ cls d σ' S' H', SG G pr S H σ e S' H' σ' e' → G.xr S' H' x cls d → G.W cls d (base G σ') H'
end
section
variable {G : Gx} {pr : List Nat} {S S1 H H1 : Hp} {σ σ1 : L2.St} {e e1 : En} {D : Ends}
theorem PO.step (g : SG G pr S H σ e S1 H1 σ1 e1) {o : O} (h : PO G pr S H σ e D o) : PO G pr S1 H1 σ1 e1 D o := by
  cases o with
  | st => exact h
  | nx e' => exact fun σ' S' H' g' => h σ' S' H' (g.trans g')
  | rt r e' => exact fun x σ' S' H' g' rp f => h x σ' S' H' (g.trans g') rp (f.backS g.g)
  | bk e' => exact fun σ' S' H' g' => h σ' S' H' (g.trans g')
  | ct e' => exact fun σ' S' H' g' => h σ' S' H' (g.trans g')
  | ex x e' => exact fun cls d σ' S' H' g' q => h cls d σ' S' H' (g.trans g') q
theorem PO.px {x : Xn} {e' : En} (h : PO G pr S H σ e D (.ex x e')) : PX G S H σ e x e' := fun cls d S' H' g q => h cls d σ S' H' g.sg q
theorem PR.bo {Q' : V → Hp → Prop} {r : R} {f : RV → En → O} (h : PO G pr S H σ e D (r.bo f))
    (k : ∀ r1 e1 x S1 H1, r = .ok r1 e1 → Grow G.K S H σ e S1 H1 σ e1 → RepR G.K S1 H1 σ e1 r1 x → Frs H σ e r1 x → PO G pr S H σ e D (f r1 e1) → Q' x H1) : PR G S H σ e Q' r := by
  cases r with
  | st => exact h
  | ok r1 e1 => exact fun x S' H' g rp fr => k r1 e1 x S' H' rfl g rp fr h
  | ex x e' => exact h.px
/-- .. from an earlier base -/
theorem PR.bo2 {Q' : V → Hp → Prop} {r : R} {f : RV → En → O} (g1 : Grow G.K S H σ e S1 H1 σ e1) (h : PO G pr S H σ e D (r.bo f))
    (k : ∀ r1 e2 x S2 H2, r = .ok r1 e2 → Grow G.K S1 H1 σ e1 S2 H2 σ e2 → RepR G.K S2 H2 σ e2 r1 x → Frs H1 σ e1 r1 x → PO G pr S H σ e D (f r1 e2) → Q' x H2) : PR G S1 H1 σ e1 Q' r := by
  cases r with
  | st => exact h
  | ok r1 e1 => exact fun x S' H' g rp fr => k r1 e1 x S' H' rfl g rp fr h
  | ex x e' => exact PX.step g1 h.px
theorem PL.bo {Q' : List V → Hp → Prop} {r : RL} {f : List RV → En → O} (h : PO G pr S H σ e D (r.bo f))
    (k : ∀ rs e1 xs S1 H1, r = .ok rs e1 → Grow G.K S H σ e S1 H1 σ e1 → RepRs G.K S1 H1 σ e1 rs xs → FrsA H σ e rs xs → PO G pr S H σ e D (f rs e1) → Q' xs H1) : PL G S H σ e Q' r := by
  cases r with
  | st => exact h
  | ok r1 e1 => exact fun x S' H' g rp fr => k r1 e1 x S' H' rfl g rp fr h
  | ex x e' => exact h.px
theorem PB.bo {Q' : Bool → Hp → Prop} {r : RT} {f : Bool → En → O} (h : PO G pr S H σ e D (r.bo f))
    (k : ∀ b e1 S1 H1, r = .ok b e1 → Grow G.K S H σ e S1 H1 σ e1 → PO G pr S H σ e D (f b e1) → Q' b H1) : PB G S H σ e Q' r := by
  cases r with
  | st => exact h
  | ok r1 e1 => exact fun S' H' g => k r1 e1 S' H' rfl g h
  | ex x e' => exact h.px
end
def tS (G : Gx) (pr : List Nat) (f : En → O) : TS := fun D σ H => ∃ τ, base G τ = σ ∧ ∃ S e, Rel G.K S H τ e ∧ Lk G τ S ∧ PO G pr S H τ e D (f e)
theorem PSwk {X : Cx} {s : Stmt} {t t' : TS} (h : PS X s t) (k : ∀ D σ H, t' D σ H → t D σ H) : PS X s t' := ⟨fun pins s σ H D I q => h.run pins s σ H D I (k D σ H q)⟩
theorem PSswk {X : Cx} {s : List Stmt} {t t' : TS} (h : PSs X s t) (k : ∀ D σ H, t' D σ H → t D σ H) : PSs X s t' := ⟨fun pins s σ H D I q => h.run pins s σ H D I (k D σ H q)⟩
section
variable {X : Cx} {c : Cc} {G : Gx} {Φ : Ph} {a b : Expr} {pos : Pos} {f g h : En → R} {pr : List Nat}
theorem r_pass : PS X (.Pass pos) (tS G pr fun e => .nx e) := PSwk ps_pass fun D σ H ⟨τ, hτ, S, e, rel, lnk, k⟩ => by rw [← hτ]; exact k τ S H rel.grow.sg
theorem r_brk : PS X (.Break pos) (tS G pr fun e => .bk e) := PSwk ps_break fun D σ H ⟨τ, hτ, S, e, rel, lnk, k⟩ => by rw [← hτ]; exact k τ S H rel.grow.sg
theorem r_cnt : PS X (.Continue pos) (tS G pr fun e => .ct e) := PSwk ps_continue fun D σ H ⟨τ, hτ, S, e, rel, lnk, k⟩ => by rw [← hτ]; exact k τ S H rel.grow.sg
theorem r_retN : PS X (.Return none pos) (tS G pr fun e => .rt (.v .none) e) := PSwk ps_retN fun D σ H ⟨τ, hτ, S, e, rel, lnk, k⟩ => k .non τ S H rel.grow.sg .non trivial
theorem r_ret (ha : PE X a (tE G f)) : PS X (.Return (some a) pos) (tS G pr fun e => (f e).bo fun r e1 => .rt r e1) :=
  PSwk (ps_ret ha) fun D σ H ⟨τ, hτ, S, e, rel, lnk, k⟩ => ⟨τ, hτ, S, e, rel, lnk, PR.bo k fun r e1 x S1 H1 _ g1 p1 f1 k1 => k1 x τ S1 H1 g1.sg p1 f1⟩
/-- no comprehension -/
def noComp : Expr → Bool
  | .ListComp .. => false
  | .SetComp .. => false
  | .DictComp .. => false
  | _ => true
theorem noComp_sw (h : noComp a = true) {t : Option Expr} {l : Nat} {env : Env} : swapsWith a t l env = pure false := by
  cases a <;> first | rfl | (simp [noComp] at h)
theorem r_ex (hn : noComp a = true) (ha : PE X a (tE G f)) : PS X (.Expr a pos) (tS G pr fun e => (f e).bo fun _ e1 => .nx e1) :=
  PSwk (ps_expr ha (noComp_sw hn)) fun D σ H ⟨τ, hτ, S, e, rel, lnk, k⟩ => ⟨τ, hτ, S, e, rel, lnk, PR.bo k fun r e1 x S1 H1 _ g1 p1 f1 k1 => by rw [← hτ]; exact k1 τ S1 H1 g1.sg⟩
/-- a result stored -/
theorem put_ok {K : Fg} {S0 S H0 H : Hp} {σ0 σ : L2.St} {e0 e e' : En} {i : Nat} {own : Bool} {r : RV} {x : V} (g : Grow K S0 H0 σ0 e0 S H σ e) (p : RepR K S H σ e r x) (fr : Frs H0 σ0 e0 r x) (h : put i own r e = some e') :
    ∃ S', Grow K S0 H0 σ0 e0 S' H (σ.set i (some x)) e' ∧ Sub S S' ∧ ∀ r' x', RepR K S H σ e r' x' → (∀ ds ds', r = .o ds → r' = .o ds' → x' ≠ x) → (∀ j, r' = .b j → j ≠ i) → RepR K S' H (σ.set i (some x)) e' r' x' := by
  have gen : ∀ {e' : En}, (toV e r).map (fun p => p.2.set i (.v p.1)) = some e' → ∃ S', Grow K S0 H0 σ0 e0 S' H (σ.set i (some x)) e' ∧ Sub S S' ∧ ∀ r' x', RepR K S H σ e r' x' → (∀ ds ds', r = .o ds → r' = .o ds' → x' ≠ x) → (∀ j, r' = .b j → j ≠ i) → RepR K S' H (σ.set i (some x)) e' r' x' := by
    intro e' h
    obtain ⟨⟨d, e1⟩, h1, rfl⟩ := Option.map_eq_some_iff.mp h
    obtain ⟨S', g', s', pv, k'⟩ := toV_ok g p fr h1
    exact ⟨S', g'.setV pv, s', fun r' x' z n nb => (k' r' x' z n).setV nb⟩
  unfold put at h
  split at h
  · cases h
    exact ⟨S, g.setO p fr, Sub.rfl', fun r' x' z n nb => z.setO g.rel nb fun ds hr => n _ ds rfl hr⟩
  · exact gen h
noncomputable def semAsg (i : Nat) (own : Bool) (f : En → R) (e : En) : O := (f e).bo fun r e1 => match put i own r e1 with
    | some e2 => .nx e2
    | none => .st
theorem asg_read (gp : GP G pr) {i : Nat} {own : Bool} (hi : i ∉ pr) (D : Ends) (σ : L2.St) (H : Hp) (q : tS G pr (semAsg i own f) D σ H) : tAsg (tE G f) (gName i) D σ H := by
  obtain ⟨τ, hτ, S, e, rel, lnk, k⟩ := q
  refine ⟨τ, hτ, S, e, rel, lnk, PR.bo k fun r e1 x S1 H1 _ g1 p1 f1 k1 => ?_⟩
  split at k1
  · rename_i e2 hp
    obtain ⟨S2, g2, _, _⟩ := put_ok g1 p1 f1 hp
    show D.nx (σ.set i (some x)) H1
    rw [← hτ, ← base_set (gp.out hi).1]
    exact k1 _ S2 H1 (.of gp g2 (fun j hj => List.getElem?_set_ne (fun z => hi (by rw [z]; exact hj))) (List.length_set ..))
  · exact k1.elim
theorem r_asg (F : Fit X c G Φ) (gp : GP G pr) {i : Nat} {own : Bool} {t : Expr} (hn : noComp a = true) (ht : nmB c i t = true) (hi : i ∉ pr) (ha : PE X a (tE G f)) : PS X (.Assign [t] a pos) (tS G pr (semAsg i own f)) := by
  cases t <;> simp [nmB] at ht
  rename_i x p
  obtain ⟨h1, h2, h3, h4⟩ := ht
  refine PSwk (ps_set (i := i) (by rw [F.N]; exact F.nd) (by rw [F.N]; exact h1) (by rw [F.sc]; exact locB_ok h2) ha (noComp_sw hn) (by rw [F.sc]; exact F.loc x (locB_ok h2) (locB_ok h3))) fun D σ H q => asg_read gp hi D σ H q
/-- a comprehension stored: whether the store comes within -/
def swB (c : Cc) (y : Str) (ln ln' : Nat) (scope : Scope) : Bool := c.sc.kind == .function && c.sc.names.lookup y == some .local && ln == ln' && !(scope.names.any fun (n, k) => n == y && (k == .local || k == .cell))
theorem sw_eq (F : Fit X c G Φ) (hk : c.sc.kind = .function) {elt : Expr} {gs : List Comprehension} {scope : Scope} {pos py : Pos} {y : Str} {l : Nat} : swapsWith (.ListComp elt gs scope pos) (some (.Name y py)) l X.env = pure (swB c y py.line pos.line scope) := by
  have hb : X.env.blockKind = .function := by unfold Env.blockKind; rw [F.sc, hk]; rfl
  unfold swapsWith swB
  simp only [hb, hk, Env.kindOf, F.sc, Expr.pos]
def fnKind : ScopeKind → Bool
  | .function => true
  | _ => false
theorem fnKind_ok {k : ScopeKind} (h : fnKind k = true) : k = .function := by cases k <;> simp [fnKind] at h <;> rfl

def swapOk (c : Cc) (x y : Str) (px py : Pos) (a b : Expr) : Bool := fnKind c.sc.kind && (c.sc.names.lookup x == some .local && (c.sc.names.lookup y == some .local && ((px.line == py.line) && ((x != y) && (plainX a && (plainX b && (!([a, b].all (foldedForSure 8)) && !([a, b].all (constantsAlone 8)))))))))
theorem swap_eq (F : Fit X c G Φ) {x y : Str} {px py pt pt2 : Pos} {kt k2 : Nat} (h : swapOk c x y px py a b = true) : swappedStores [.Tuple [.Name x px, .Name y py] kt pt] (.Tuple [a, b] k2 pt2) X.env = pure (some [x, y]) := by
  simp only [swapOk, Bool.and_eq_true, beq_iff_eq, bne_iff_ne, ne_eq, Bool.not_eq_true'] at h
  obtain ⟨h1, h2, h3, h4, h5, h6, h7, h8, h9⟩ := h
  have hb : X.env.blockKind = .function := by unfold Env.blockKind; rw [F.sc, fnKind_ok h1]; rfl
  have kx : X.env.kindOf x = some .local := by unfold Env.kindOf; rw [F.sc]; exact h2
  have ky : X.env.kindOf y = some .local := by unfold Env.kindOf; rw [F.sc]; exact h3
  have hyx : ¬ y = x := fun z => h5 z.symm
  simp only [List.all_cons, List.all_nil, Bool.and_true] at h8 h9
  unfold swappedStores
  simp [hb, kx, ky, Expr.pos, h4, h5, hyx, h8, h9, List.eraseDups_cons, List.filterMap]
  intro z
  exfalso
  rcases z with z | z
  · cases a <;> first | (simp at z; done) | (simp [plainX] at h6)
  · cases b <;> first | (simp at z; done) | (simp [plainX] at h7)
noncomputable def semPar (i : Nat) (oi : Bool) (j : Nat) (oj : Bool) (f g : En → R) (e : En) : O := (f e).bo fun r e1 => (g e1).bo fun r' e2 => match (put i oi r e2).bind (put j oj r') with
    | some e3 => if i = j ∨ isB r' i = true then .st else .nx e3
    | none => .st
theorem r_par (F : Fit X c G Φ) (gp : GP G pr) {i j : Nat} {oi oj : Bool} {x y : Str} {px py pt pt2 : Pos} {kt k2 : Nat} (h : swapOk c x y px py a b = true) (hx : c.N[i]? = some x) (hy : c.N[j]? = some y) (hi : i ∉ pr) (hj : j ∉ pr) (ha : PE X a (tE G f)) (hg : PE X b (tE G g)) :
    PS X (.Assign [.Tuple [.Name x px, .Name y py] kt pt] (.Tuple [a, b] k2 pt2) pos) (tS G pr (semPar i oi j oj f g)) := by
  have h0 := h
  simp only [swapOk, Bool.and_eq_true, beq_iff_eq, bne_iff_ne, ne_eq, Bool.not_eq_true'] at h
  obtain ⟨h1, h2, h3, h4, h5, h6, h7, h8, h9⟩ := h
  have nij : i ≠ j := fun z => by
    subst z
    rw [hx] at hy
    cases hy
    exact h5 rfl
  refine PSwk (ps_par (i := i) (j := j) F.calm (by rw [F.N]; exact F.nd) (by rw [F.N]; exact hx) (by rw [F.N]; exact hy) nij (by rw [F.sc]; exact h2) (by rw [F.sc]; exact h3) (pa_cons ha (pa_cons hg pa_nil (star_cons h7)) (star_cons h6)) (swap_eq F h0)) fun D σ H ⟨τ, hτ, S, e, rel, lnk, k⟩ => ?_
  refine ⟨τ, hτ, S, e, rel, lnk, PR.bo k fun r e1 v S1 H1 _ g1 p1 f1 k1 => ⟨τ, hτ, S1, e1, g1.rel, lnk.mono g1.sub, PR.bo2 g1 k1 fun r' e2 w S2 H2 hr' g2 p2 f2 k2 => ⟨v, w, rfl, ?_⟩⟩⟩
  split at k2
  · rename_i e3 hp
    split at k2
    · exact k2.elim
    rename_i hnb
    have hnb : isB r' i = false := by simpa using (not_or.mp hnb).2
    obtain ⟨e2', hp1, hp2⟩ := Option.bind_eq_some_iff.mp hp
    obtain ⟨S3, g3, _, k3⟩ := put_ok (g1.trans g2) (p1.grow g2) f1 hp1
    have p2' := k3 r' w p2 (fun ds ds' z1 z2 z3 => by
      subst z1 z2 z3
      obtain ⟨a, xs, rfl, q1, q2, q3, q4⟩ := p1
      rcases f2 a rfl with z | z
      · rw [q1] at z; cases z
      · exact q4 z) (fun k z => by subst z; simpa [isB] using hnb)
    obtain ⟨S4, g4, _, _⟩ := put_ok g3 p2' (f2.back g1) hp2
    rw [← hτ, ← base_set (gp.out hi).1, ← base_set (gp.out hj).1]
    refine k2 _ S4 H2 (.of gp g4 (fun m hm => ?_) (by rw [List.length_set, List.length_set]))
    rw [List.getElem?_set_ne (fun z => hj (by rw [z]; exact hm)), List.getElem?_set_ne (fun z => hi (by rw [z]; exact hm))]
  · exact k2.elim
/-- the value's form lets the stores come one after another -/
def unpOk : Expr → Bool
  | .Tuple es _ _ => es.all (foldedForSure 8) && es.all fun | .Starred .. => false | _ => true
  | .List .. => false
  | e => noComp e
theorem unp_sw (F : Fit X c G Φ) (h : unpOk a = true) {ts : List Expr} {kt : Nat} {pt : Pos} {l : Nat} : swappedStores [.Tuple ts kt pt] a X.env = pure none ∧ swapsWithSole [.Tuple ts kt pt] a l X.env = pure false := by
  cases a <;> first | exact ⟨rfl, rfl⟩ | (simp [unpOk, noComp] at h; done) | skip
  rename_i es k p
  refine ⟨?_, rfl⟩
  obtain ⟨h1, h2⟩ := and2 (show (es.all (foldedForSure 8) && es.all fun | .Starred .. => false | _ => true) = true from h)
  unfold swappedStores
  simp only
  split
  · rfl
  · split
    · rfl
    · split
      · rfl
      · simp [h1]
noncomputable def semUnp (is : List Nat) (f : En → R) (e : En) : O := (f e).bo fun r e1 => match toV e1 r with
    | some (.tuple ds, e2) => match asgs is ds e2 with
      | some e3 => .nx e3
      | none => .st
    | _ => .st
theorem r_unp (F : Fit X c G Φ) (gp : GP G pr) {is : List Nat} {es : List Expr} {kt : Nat} {pt : Pos} (hu : unpOk a = true) (hn : nmsB c is es = true) (hpr : ∀ i ∈ is, i ∉ pr) (ha : PE X a (tE G f)) : PS X (.Assign [.Tuple es kt pt] a pos) (tS G pr (semUnp is f)) := by
  have tgok : chkTg c (.t is) (.Tuple es kt pt) = true := hn
  obtain ⟨u1, u2⟩ := unp_sw F hu (ts := es) (kt := kt) (pt := pt) (l := pos.line)
  refine PSwk (ps_asg ha (s_tg F tgok).1 u2 u1) fun D σ H ⟨τ, hτ, S, e, rel, lnk, k⟩ => ⟨τ, hτ, S, e, rel, lnk, PR.bo k fun r e1 x S1 H1 _ g1 p1 f1 k1 => ?_⟩
  split at k1
  · rename_i ds e2 hv
    split at k1
    · rename_i e3 ha
      obtain ⟨S2, g2, _, pv, _⟩ := toV_ok g1 p1 f1 hv
      obtain ⟨σ', q1, q2, q3, _, q5⟩ := tg_ok (base G) (tg := .t is) (fun k hk τ x => base_set (gp.out (hpr k hk)).1) g2 pv (show asgT (.t is) (.tuple ds) e2 = some e3 from ha)
      rw [F.K, ← hτ]
      exact q1 _ (k1 σ' S2 H1 (.of gp q2 (fun j hj => (q5 j fun z => hpr j z hj).1) q3))
    · exact k1.elim
  · exact k1.elim

theorem sub_plain (hp : plainX b = true) {o : Expr} {env : Env} {v : Value} : assign (.Subscript o b pos) env v = (holding [v] (eval o env) >>= fun x => holding [v, x] (eval b env) >>= fun y => standAt pos >>= fun _ => holding [v, x, y] (setItem x y v) >>= fun _ => release [v, x, y] []) := by
  cases b <;> first | rfl | (simp [plainX] at hp)
theorem aug_plain (hp : plainX b = true) {ov iv new : Value} : augStore b ov iv new = (do holding [new, ov, iv] (setItem ov iv new); release [new, ov, iv] []; pure .next) := by
  cases b <;> first | rfl | (simp [plainX] at hp)
noncomputable def semSix (f g h : En → R) (e : En) : O := (h e).bo fun r e1 => (f e1).bo fun x e2 => (g e2).bo fun y e3 => match toV e3 r with
    | none => .st
    | some (d, e4) => match x, res e4 y with
      | .b i, some (.int n) => match e4[i]? with
        | some (.o ds) => match ixOf ds.length n with
          | some m => .nx (e4.set i (.o (ds.set m d)))
          | none => .st
        | _ => .st
      | _, _ => .st
theorem r_six {b2 : Expr} {tp : Pos} (hK : X.K = G.K) (hn : noComp b2 = true) (hp : plainX b = true) (ha : PE X a (tE G f)) (hb : PE X b (tE G g)) (hc : PE X b2 (tE G h)) : PS X (.Assign [.Subscript a b tp] b2 pos) (tS G pr (semSix f g h)) := by
  refine PSwk (ps_asg hc (pg_sub ha hb set_list (fun v => sub_plain hp)) (by unfold swapsWithSole; exact noComp_sw hn) rfl) fun D σ H ⟨τ, hτ, S, e, rel, lnk, k⟩ => ⟨τ, hτ, S, e, rel, lnk, PR.bo k fun r e1 x S1 H1 _ g1 p1 f1 k1 => ⟨τ, hτ, S1, e1, g1.rel, lnk.mono g1.sub, PR.bo2 g1 k1 fun rx e2 xo S2 H2 hrx g2 p2 f2 k2 => ⟨τ, hτ, S2, e2, g2.rel, (lnk.mono g1.sub).mono g2.sub, PR.bo2 (g1.trans g2) k2 fun ry e3 xi S3 H3 hry g3 p3 f3 k3 => ?_⟩⟩⟩
  split at k3
  · exact k3.elim
  · rename_i d e4 hv
    split at k3
    · rename_i i n hres
      split at k3
      · rename_i ds hi
        split at k3
        · rename_i m hm
          have gAll := (g1.trans g2).trans g3
          obtain ⟨S4, g4, s4, pv, k4⟩ := toV_ok gAll ((p1.grow g2).grow g3) f1 hv
          obtain ⟨a', xs, q1, q2, q3, q4⟩ := g4.rel.own i ds hi
          have hx : τ[i]? = some (some xo) := p2
          have q1' := q1
          rw [hx] at q1'; cases q1'
          have py := k4 _ _ p3 (fun ds' ds'' z1 z2 z3 => by
            subst z2
            simp [res] at hres)
          have hint := (res_ok g4.rel py hres).int
          subst hint
          refine ⟨a', xs, n, m, rfl, rfl, q2, ixOf_N _ _ _ (by rw [q4.length]; exact hm), ?_⟩
          rw [← hτ]
          exact k3 τ S4 _ (g4.trans (g4.rel.write hi q1 q2 (q4.set pv _))).sg
        · exact k3.elim
      · exact k3.elim
    · exact k3.elim
theorem get_list : PGet X (fun o i H Q => ∃ p xs k v, o = .ref p ∧ i = .int k ∧ SqL X.K H p xs ∧ atI xs k = some v ∧ Q v H) := by
  intro pins s σ H o i ov iv Q I ro ri ⟨p, xs, k, z, e1, e2, hq, he, q⟩
  subst e1 e2
  cases ro
  obtain ⟨t, rfl⟩ := ri
  obtain ⟨items, r, pl, short⟩ := I.list hq
  obtain ⟨j, h1, h2, _, _, _⟩ := atI_get he
  obtain ⟨got, ew, rel⟩ := r.get h2
  have hl := r.length
  have hz' : xs.length ≤ sizeLine := short
  have hL : sizeLine = 16777216 := by decide
  have fin : EP X pins σ Q got s := ⟨z, H, I, rel, q⟩
  unfold seqIndex? at h1
  by_cases h0 : 0 ≤ k
  · have hk : ¬ k < 0 := by omega
    simp only [hk, if_false] at h1
    split at h1
    · cases h1
      exact wpAny_getItem_list pl.isList h0 (by omega) (by simpa using ew) fin
    · cases h1
  · have hk : k < 0 := by omega
    simp only [hk, if_true] at h1
    split at h1
    · cases h1
      refine wpAny_getItem_list_neg pl.isList hk (by rw [List.size_toArray]; omega) (by omega) ?_ fin
      rw [List.size_toArray, ← hl]
      simpa using ew
    · cases h1
noncomputable def semAugs (o : Op2) (f g h : En → R) (e : En) : O := (f e).bo fun x e1 => (g e1).bo fun y e2 => match x, res e2 y with
    | .b i, some (.int n) => match e2[i]? with
      | some (.o ds) => match (ixOf ds.length n).bind fun j => ds[j]? with
        | some (.int u) => (h e2).bo fun r e3 => match res e3 r, e3[i]? with
          | some (.int w), some (.o ds') => match ixOf ds'.length n with
            | some j => match augI o u w with
              | some z => .nx (e3.set i (.o (ds'.set j (.int z))))
              | none => .st
            | none => .st
          | _, _ => .st
        | _ => .st
      | _ => .st
    | _, _ => .st
theorem r_augs {b2 : Expr} {tp : Pos} (hK : X.K = G.K) (o : Op2) (hp : plainX b = true) (ha : PE X a (tE G f)) (hb : PE X b (tE G g)) (hc : PE X b2 (tE G h)) (ho : o = .add ∨ o = .sub) : PS X (.AugAssign (.Subscript a b tp) (opA o) b2 pos) (tS G pr (semAugs o f g h)) := by
  have ip : PIp X (opA o) (fun x y H Q => ∃ i j z, x = .int i ∧ y = .int j ∧ augI o i j = some z ∧ Q (.int z) H) := by
    intro pins s σ H x y v u Q I r1 r2 ⟨i, j, z, e1, e2, e3, q⟩
    rcases ho with rfl | rfl
    · cases e3; exact ip_add pins s σ H x y v u Q I r1 r2 ⟨i, j, e1, e2, q⟩
    · cases e3; exact ip_sub pins s σ H x y v u Q I r1 r2 ⟨i, j, e1, e2, q⟩
  refine PSwk (ps_augS ha hb get_list hc ip set_list (fun _ _ _ => aug_plain hp)) fun D σ H ⟨τ, hτ, S, e, rel, lnk, k⟩ => ⟨τ, hτ, S, e, rel, lnk, PR.bo k fun rx e1 xo S1 H1 hrx g1 p1 f1 k1 => ⟨τ, hτ, S1, e1, g1.rel, lnk.mono g1.sub, PR.bo2 g1 k1 fun ry e2 xi S2 H2 hry g2 p2 f2 k2 => ?_⟩⟩
  split at k2
  · rename_i i n hres
    split at k2
    · rename_i ds hi
      split at k2
      · rename_i u hu
        have hx : τ[i]? = some (some xo) := p1
        obtain ⟨a', xs, q1, q2, q3, q4⟩ := g2.rel.own i ds hi
        have q1' := q1
        rw [hx] at q1'; cases q1'
        have hint := (res_ok g2.rel p2 hres).int
        subst hint
        obtain ⟨j, hj, hju⟩ := Option.bind_eq_some_iff.mp hu
        obtain ⟨w, w1, w2⟩ := q4.get hju
        cases w2
        refine ⟨a', xs, n, _, rfl, rfl, sqL_of q2, by unfold atI; rw [ixOf_N _ _ j (by rw [q4.length]; exact hj)]; exact w1, τ, hτ, S2, e2, g2.rel, (lnk.mono g1.sub).mono g2.sub, PR.bo2 (g1.trans g2) k2 fun r e3 y S3 H3 _ g3 p3 f3 k3 => ?_⟩
        split at k3
        · rename_i w' ds' hr hi3
          split at k3
          · rename_i j3 hj3
            split at k3
            · rename_i z hz
              obtain ⟨b', ys, z1, z2, z3, z4⟩ := g3.rel.own i ds' hi3
              rw [q1] at z1; cases z1
              have hint := (res_ok g3.rel p3 hr).int
              subst hint
              refine ⟨u, w', z, rfl, rfl, hz, a', ys, n, j3, rfl, rfl, z2, ixOf_N _ _ _ (by rw [z4.length]; exact hj3), ?_⟩
              rw [← hτ]
              exact k3 τ S3 _ (((g1.trans g2).trans g3).trans (g3.rel.write hi3 q1 z2 (z4.set (.int _) _))).sg
            · exact k3.elim
          · exact k3.elim
        · exact k3.elim
      · exact k2.elim
    · exact k2.elim
  · exact k2.elim
noncomputable def semAug (i : Nat) (o : Op2) (f : En → R) (e : En) : O := match e[i]? with
    | some (.v d) => (f e).bo fun r e1 => match d, res e1 r with
      | .int x, some (.int y) => match augI o x y with
        | some z => .nx (e1.set i (.v (.int z)))
        | none => .st
      | _, _ => .st
    | _ => .st
theorem r_aug (F : Fit X c G Φ) (gp : GP G pr) {i : Nat} {t : Expr} (o : Op2) (ho : o = .add ∨ o = .sub) (ht : nmB c i t = true) (hi : i ∉ pr) (ha : PE X a (tE G f)) : PS X (.AugAssign t (opA o) a pos) (tS G pr (semAug i o f)) := by
  cases t <;> simp [nmB] at ht
  rename_i x p
  obtain ⟨h1, h2, h3, h4⟩ := ht
  have ip : PIp X (opA o) (fun x y H Q => ∃ i j z, x = .int i ∧ y = .int j ∧ augI o i j = some z ∧ Q (.int z) H) := by
    intro pins s σ H x y v u Q I r1 r2 ⟨i, j, z, e1, e2, e3, q⟩
    rcases ho with rfl | rfl
    · cases e3; exact ip_add pins s σ H x y v u Q I r1 r2 ⟨i, j, e1, e2, q⟩
    · cases e3; exact ip_sub pins s σ H x y v u Q I r1 r2 ⟨i, j, e1, e2, q⟩
  refine PSwk (ps_aug (i := i) (by rw [F.N]; exact F.nd) (by rw [F.N]; exact h1) (by rw [F.sc]; exact locB_ok h2) ha ip (by rw [F.sc]; exact F.loc x (locB_ok h2) (locB_ok h3))) fun D σ H ⟨τ, hτ, S, e, rel, lnk, k⟩ => ?_
  unfold semAug at k
  split at k
  · rename_i d hd
    obtain ⟨v, v1, v2⟩ := rel.val i d hd
    refine ⟨v, at_base hτ (gp.out hi).1 v1, τ, hτ, S, e, rel, lnk, PR.bo k fun r e1 y S1 H1 _ g1 p1 f1 k1 => ?_⟩
    split at k1
    · rename_i u w hr
      split at k1
      · rename_i z hz
        cases v2
        have hint := (res_ok g1.rel p1 hr).int
        subst hint
        refine ⟨u, w, z, rfl, rfl, hz, ?_⟩
        show D.nx (σ.set i (some (V.int z))) H1
        rw [← hτ, ← base_set (gp.out hi).1]
        exact k1 _ S1 H1 (.of gp (g1.setV (.int z)) (fun j hj => List.getElem?_set_ne (fun zz => hi (by rw [zz]; exact hj))) (List.length_set ..))
      · exact k1.elim
    · exact k1.elim
  · exact k.elim
end
section
variable {K : Fg} {S0 S H0 H : Hp} {σ0 σ : L2.St} {e0 e e' : En}
theorem solid_ok : ∀ {rs rs1 : List RV} {xs : List V} {S : Hp} {e e' : En}, Grow K S0 H0 σ0 e0 S H σ e → RepRs K S H σ e rs xs → FrsA H0 σ0 e0 rs xs → solid rs e = some (rs1, e') →
    ∃ S', Grow K S0 H0 σ0 e0 S' H σ e' ∧ RepRs K S' H σ e' rs1 xs ∧ FrsA H0 σ0 e0 rs1 xs ∧ (∀ r ∈ rs1, ∀ j, r ≠ .b j) ∧ (∀ r' x', RepR K S H σ e r' x' → RepR K S' H σ e' r' x') ∧ (∀ (j : Nat) (ds : List D), rs1[j]? = some (.o ds) → rs[j]? = some (.o ds))
  | [], rs1, xs, S, e, e', g, p, f, h => by
    cases p
    cases h
    exact ⟨S, g, .nil, .nil, fun r hr => (by cases hr), fun _ _ z => z, fun j ds z => z⟩
  | r :: rs, rs1, _, S, e, e', g, .cons (x := x) (xs := xs) a n t, .cons fa ft, h => by
    have plain : ∀ (r : RV), (∀ j, r ≠ .b j) → RepR K S H σ e r x → Frs H0 σ0 e0 r x → (∀ ds, r = .o ds → NoO x rs xs) → (solid rs e).map (fun q => (r :: q.1, q.2)) = some (rs1, e') →
        ∃ S', Grow K S0 H0 σ0 e0 S' H σ e' ∧ RepRs K S' H σ e' rs1 (x :: xs) ∧ FrsA H0 σ0 e0 rs1 (x :: xs) ∧ (∀ r ∈ rs1, ∀ j, r ≠ .b j) ∧ (∀ r' x', RepR K S H σ e r' x' → RepR K S' H σ e' r' x') ∧ (∀ (j : Nat) (ds : List D), rs1[j]? = some (.o ds) → (r :: rs)[j]? = some (.o ds)) := by
      intro r nb a fa n h
      obtain ⟨⟨rs2, e2⟩, h1, h2⟩ := Option.map_eq_some_iff.mp h
      cases h2
      obtain ⟨S', g', p', f', b', k', o'⟩ := solid_ok g t ft h1
      refine ⟨S', g', .cons (k' _ _ a) (fun ds hr j es hj hx => n ds hr j es (o' j es hj) hx) p', .cons fa f', fun r' hr' => ?_, k', fun j ds hj => ?_⟩
      · rcases List.mem_cons.mp hr' with z | z
        · subst z; exact nb
        · exact b' r' z
      · cases j with
        | zero => simpa using hj
        | succ j => simpa using o' j ds (by simpa using hj)
    cases r with
    | v d => exact plain (.v d) (fun j z => by cases z) a fa (fun ds z => by cases z) h
    | o ds => exact plain (.o ds) (fun j z => by cases z) a fa n h
    | b i =>
      obtain ⟨⟨d, e1⟩, h1, h2⟩ := Option.bind_eq_some_iff.mp (show (toV e (.b i)).bind _ = _ from h)
      obtain ⟨⟨rs2, e2⟩, h3, h4⟩ := Option.map_eq_some_iff.mp h2
      cases h4
      obtain ⟨S1, g1, s1, pv, k1⟩ := toV_ok g a fa h1
      have k1' : ∀ r' x', RepR K S H σ e r' x' → RepR K S1 H σ e1 r' x' := fun r' x' z => k1 r' x' z fun ds ds' z1 => by cases z1
      have t1 : ∀ {rs : List RV} {xs : List V}, RepRs K S H σ e rs xs → RepRs K S1 H σ e1 rs xs := by
        intro rs xs t
        induction t with
        | nil => exact .nil
        | cons a n _ ih => exact .cons (k1' _ _ a) n ih
      obtain ⟨S', g', p', f', b', k', o'⟩ := solid_ok g1 (t1 t) ft h3
      refine ⟨S', g', .cons (k' (.v d) _ pv) (fun ds z => by cases z) p', .cons trivial f', fun r' hr' => ?_, fun r' x' z => k' _ _ (k1' _ _ z), fun j ds hj => ?_⟩
      · rcases List.mem_cons.mp hr' with z | z
        · subst z; exact fun j z => by cases z
        · exact b' r' z
      · cases j with
        | zero => simp at hj
        | succ j => simpa using o' j ds (by simpa using hj)
/-- the names' new values -/
def sets : L2.St → List (Nat × Bool) → List V → L2.St
  | σ, t :: ts, x :: xs => sets (σ.set t.1 (some x)) ts xs
  | σ, _, _ => σ
theorem sets_len : ∀ {ts : List (Nat × Bool)} {xs : List V} {σ : L2.St}, (sets σ ts xs).length = σ.length
  | [], _, _ => rfl
  | _ :: _, [], _ => rfl
  | t :: ts, x :: xs, σ => by rw [sets, sets_len, List.length_set]
theorem sets_get {j : Nat} : ∀ {ts : List (Nat × Bool)} {xs : List V} {σ : L2.St}, j ∉ ts.map (·.1) → (sets σ ts xs)[j]? = σ[j]?
  | [], _, _, _ => rfl
  | _ :: _, [], _, _ => rfl
  | t :: ts, x :: xs, σ, h => by
    have h1 : j ≠ t.1 := fun z => h (by simp [z])
    rw [sets, sets_get fun z => h (by simp at z; simp [z]), List.getElem?_set_ne (Ne.symm h1)]
theorem puts_ok : ∀ {ts : List (Nat × Bool)} {rs : List RV} {xs : List V} {S : Hp} {σ : L2.St} {e e' : En}, Grow K S0 H0 σ0 e0 S H σ e → RepRs K S H σ e rs xs → FrsA H0 σ0 e0 rs xs → (∀ r ∈ rs, ∀ j, r ≠ .b j) → puts ts rs e = some e' →
    ∃ S', Grow K S0 H0 σ0 e0 S' H (sets σ ts xs) e' ∧ xs.length = ts.length
  | [], [], _, S, σ, e, e', g, .nil, _, _, h => by cases h; exact ⟨S, g, rfl⟩
  | [], _ :: _, _, _, _, _, _, _, _, _, _, h => by simp [puts] at h
  | _ :: _, [], _, _, _, _, _, _, _, _, _, h => by simp [puts] at h
  | t :: ts, r :: rs, _, S, σ, e, e', g, .cons (x := x) (xs := xs) a n p, .cons fa ft, nb, h => by
    obtain ⟨e1, h1, h2⟩ := Option.bind_eq_some_iff.mp (show (put t.1 t.2 r e).bind _ = _ from h)
    obtain ⟨S1, g1, _, k1⟩ := put_ok g a fa h1
    have nb' : ∀ r ∈ rs, ∀ j, r ≠ .b j := fun r' hr' => nb r' (List.mem_cons_of_mem _ hr')
    have key : ∀ {rs' : List RV} {xs' : List V}, RepRs K S H σ e rs' xs' → (∀ r ∈ rs', ∀ j, r ≠ .b j) → (∀ ds, r = .o ds → NoO x rs' xs') → RepRs K S1 H (σ.set t.1 (some x)) e1 rs' xs' := by
      intro rs' xs' q
      induction q with
      | nil => exact fun _ _ => .nil
      | @cons r' x' rs' xs' a' n' _ ih =>
        intro nb' no
        refine .cons (k1 r' x' a' (fun ds ds' z1 z2 z3 => ?_) fun j z => absurd z (nb' r' List.mem_cons_self j)) n' (ih (fun r hr => nb' r (List.mem_cons_of_mem _ hr)) fun ds z j es hj hx => no ds z (j + 1) es (by simpa using hj) (by simpa using hx))
        subst z3
        exact no ds z1 0 ds' (by rw [z2]; rfl) rfl
    obtain ⟨S', g', l'⟩ := puts_ok g1 (key p nb' n) ft nb' h2
    exact ⟨S', g', by simp [l']⟩
end
section
variable {X : Cx} {c : Cc} {G : Gx} {Φ : Ph} {pos : Pos} {pr : List Nat}
noncomputable def semMas (ts : List (Nat × Bool)) (gl : En → RL) (e : En) : O := (gl e).bo fun rs e1 => match (solid rs e1).bind fun p => puts ts p.1 p.2 with
    | some e2 => .nx e2
    | none => .st
theorem base_sets : ∀ {ts : List (Nat × Bool)} {xs : List V} {τ : L2.St}, (∀ i ∈ ts.map (·.1), i ∉ G.gh.map (·.1)) → base G (sets τ ts xs) = sets (base G τ) ts xs
  | [], [], _, _ => rfl
  | [], _ :: _, _, _ => rfl
  | _ :: _, [], _, _ => rfl
  | t :: ts, x :: xs, τ, h => by
    rw [sets, sets, base_sets fun i hi => h i (by simp at hi ⊢; exact .inr hi), base_set (h t.1 (by simp))]
/-- what is asked of the values: they may be stored -/
theorem mas_read (gp : GP G pr) {ts : List (Nat × Bool)} {gl : En → RL} (hpr : ∀ i ∈ ts.map (·.1), i ∉ pr) {D : Ends} {σ : L2.St} {H : Hp} (q : tS G pr (semMas ts gl) D σ H) :
    tL G gl σ H fun xs H1 => xs.length = ts.length ∧ D.nx (sets σ ts xs) H1 ∧ ∀ p o, H1 p = none → D.nx (sets σ ts xs) (upd H1 p o) := by
  obtain ⟨τ, hτ, S, e, rel, lnk, k⟩ := q
  refine ⟨τ, hτ, S, e, rel, lnk, PL.bo k fun rs e1 xs S1 H1 _ g1 p1 f1 k1 => ?_⟩
  split at k1
  · rename_i e2 h
    obtain ⟨⟨rs1, e3⟩, h1, h2⟩ := Option.bind_eq_some_iff.mp h
    have sg : ∀ {S' H' : Hp}, Grow G.K S H τ e S' H' (sets τ ts xs) e2 → SG G pr S H τ e S' H' (sets τ ts xs) e2 := fun g => .of gp g (fun j hj => sets_get fun z => hpr j z hj) sets_len
    rw [← hτ, ← base_sets fun i hi => (gp.out (hpr i hi)).1]
    obtain ⟨S2, g2, p2, f2, b2, _, _⟩ := solid_ok g1 p1 f1 h1
    obtain ⟨S3, g3, l3⟩ := puts_ok g2 p2 f2 b2 h2
    refine ⟨l3, k1 _ S3 H1 (sg g3), fun p o hp => ?_⟩
    have gl := g1.laid (o := o) hp
    have pl : RepRs G.K S1 (upd H1 p o) τ e1 rs xs := p1.grow (g1.rel.grow.laid hp)
    obtain ⟨S4, g4, p4, f4, b4, _, _⟩ := solid_ok gl pl f1 h1
    obtain ⟨S5, g5, _⟩ := puts_ok g4 p4 f4 b4 h2
    exact k1 _ S5 _ (sg g5)
  · exact k1.elim
theorem gs_sets : ∀ {ts : List (Nat × Bool)} {xs : List V} {σ : L2.St} {H : Hp} {Q : L2.St → Hp → Prop}, xs.length = ts.length → Q (sets σ ts xs) H → gs (ts.map (·.1)) xs σ H Q
  | [], [], σ, H, Q, _, q => ⟨rfl, q⟩
  | [], _ :: _, _, _, _, h, _ => by cases h
  | _ :: _, [], _, _, _, h, _ => by cases h
  | t :: ts, x :: xs, σ, H, Q, h, q => ⟨x, xs, rfl, gs_sets (by simpa using h) q⟩
/-- the stores come one after another, off a tuple -/
def rowOk (c : Cc) (tes es : List Expr) : Bool := !(tes.length == 2 || tes.length == 3) || (es.all (foldedForSure 8) || tes.any fun t => match t with
  | .Name x _ => !(c.sc.names.lookup x == some .local)
  | _ => true)
theorem row_sw (F : Fit X c G Φ) {tes es : List Expr} (h : rowOk c tes es = true) {kt k2 : Nat} {pt p2 : Pos} {l : Nat} : swappedStores [.Tuple tes kt pt] (.Tuple es k2 p2) X.env = pure none ∧ swapsWithSole [.Tuple tes kt pt] (.Tuple es k2 p2) l X.env = pure false := by
  refine ⟨?_, rfl⟩
  have cut : ∀ (f : Expr → Option Str) (l : List Expr), (∃ t ∈ l, f t = none) → (l.filterMap f).length ≠ l.length := by
    intro f l
    induction l with
    | nil => rintro ⟨t, ht, _⟩; cases ht
    | cons a l ih =>
      rintro ⟨t, ht, hf⟩
      rw [List.filterMap_cons]
      rcases List.mem_cons.mp ht with z | z
      · subst z
        rw [hf]
        have := List.length_filterMap_le f l
        simp only [List.length_cons]
        omega
      · have := ih ⟨t, z, hf⟩
        split
        · have := List.length_filterMap_le f l
          simp only [List.length_cons]
          omega
        · simp only [List.length_cons]
          omega
  unfold rowOk at h
  unfold swappedStores
  simp only
  split
  · rfl
  · rename_i h1
    split
    · rfl
    · rcases Bool.or_eq_true_iff.mp h with z | z
      · exfalso
        apply h1
        rw [Bool.or_eq_true, Bool.or_eq_true]
        exact .inl (.inl z)
      · rcases Bool.or_eq_true_iff.mp z with z | z
        · split
          · rfl
          · simp [z]
        · obtain ⟨t, ht, hz⟩ := List.any_eq_true.mp z
          rw [if_pos]
          rw [Bool.or_eq_true, bne_iff_ne]
          refine .inl (cut _ tes ⟨t, ht, ?_⟩)
          cases t with
          | Name x p =>
            have hk : (X.env.kindOf x == some .local) = false := by
              unfold Env.kindOf
              rw [F.sc]
              simpa using hz
            simp only [hk, Bool.false_and]
            rfl
          | _ => rfl
/-- three names, stored from the right, no tuple -/
def swap3Ok (c : Cc) (x y z : Str) (px py pz : Pos) (a b d : Expr) : Bool := fnKind c.sc.kind && (c.sc.names.lookup x == some .local && (c.sc.names.lookup y == some .local && (c.sc.names.lookup z == some .local && ((px.line == py.line) && ((px.line == pz.line) && ((x != y) && ((x != z) && ((y != z) && (plainX a && (plainX b && (plainX d && (!([a, b, d].all (foldedForSure 8)) && !([a, b, d].all (constantsAlone 8))))))))))))))
theorem swap3_eq (F : Fit X c G Φ) {x y z : Str} {a b d : Expr} {px py pz pt pt2 : Pos} {kt k2 : Nat} (h : swap3Ok c x y z px py pz a b d = true) : swappedStores [.Tuple [.Name x px, .Name y py, .Name z pz] kt pt] (.Tuple [a, b, d] k2 pt2) X.env = pure (some [x, y, z]) := by
  simp only [swap3Ok, Bool.and_eq_true, beq_iff_eq, bne_iff_ne, ne_eq, Bool.not_eq_true'] at h
  obtain ⟨h1, h2, h3, h4, h5, h6, h7, h8, h9, h10, h11, h12, h13, h14⟩ := h
  have hb : X.env.blockKind = .function := by unfold Env.blockKind; rw [F.sc, fnKind_ok h1]; rfl
  have kx : X.env.kindOf x = some .local := by unfold Env.kindOf; rw [F.sc]; exact h2
  have ky : X.env.kindOf y = some .local := by unfold Env.kindOf; rw [F.sc]; exact h3
  have kz : X.env.kindOf z = some .local := by unfold Env.kindOf; rw [F.sc]; exact h4
  have hyx : ¬ y = x := fun q => h7 q.symm
  have hzx : ¬ z = x := fun q => h8 q.symm
  have hzy : ¬ z = y := fun q => h9 q.symm
  simp only [List.all_cons, List.all_nil, Bool.and_true] at h13 h14
  have h56 : py.line = px.line := h5.symm
  have h66 : pz.line = px.line := h6.symm
  unfold swappedStores
  simp [hb, kx, ky, kz, Expr.pos, h56, h66, h7, h8, h9, hyx, hzx, hzy, h13, h14, List.eraseDups_cons, List.filterMap]
  intro q
  exfalso
  rcases q with q | q | q
  · cases a <;> first | (simp at q; done) | (simp [plainX] at h10)
  · cases b <;> first | (simp at q; done) | (simp [plainX] at h11)
  · cases d <;> first | (simp at q; done) | (simp [plainX] at h12)
theorem r_mas3 (F : Fit X c G Φ) (gp : GP G pr) {i j l : Nat} {oi oj ol : Bool} {x y z : Str} {a b d : Expr} {px py pz pt pt2 : Pos} {kt k2 : Nat} {gl : En → RL} (h : swap3Ok c x y z px py pz a b d = true) (hx : c.N[i]? = some x) (hy : c.N[j]? = some y) (hz : c.N[l]? = some z) (hpr : ∀ k ∈ [i, j, l], k ∉ pr) (ha : PA X [a, b, d] (tL G gl)) :
    PS X (.Assign [.Tuple [.Name x px, .Name y py, .Name z pz] kt pt] (.Tuple [a, b, d] k2 pt2) pos) (tS G pr (semMas [(i, oi), (j, oj), (l, ol)] gl)) := by
  have h0 := h
  simp only [swap3Ok, Bool.and_eq_true, beq_iff_eq, bne_iff_ne, ne_eq, Bool.not_eq_true'] at h
  obtain ⟨h1, h2, h3, h4, h5, h6, h7, h8, h9, h10, h11, h12, h13, h14⟩ := h
  have nij : i ≠ j := fun q => by
    subst q; rw [hx] at hy; cases hy; exact h7 rfl
  have nil' : i ≠ l := fun q => by
    subst q; rw [hx] at hz; cases hz; exact h8 rfl
  have njl : j ≠ l := fun q => by
    subst q; rw [hy] at hz; cases hz; exact h9 rfl
  refine PSwk (L2.ps_par3 (i := i) (j := j) (l := l) F.calm (by rw [F.N]; exact F.nd) (by rw [F.N]; exact hx) (by rw [F.N]; exact hy) (by rw [F.N]; exact hz) nij nil' njl (by rw [F.sc]; exact h2) (by rw [F.sc]; exact h3) (by rw [F.sc]; exact h4) ha (swap3_eq F h0)) fun D σ H q => ?_
  obtain ⟨τ, hτ, S, e, rel, lnk, k⟩ := mas_read gp (ts := [(i, oi), (j, oj), (l, ol)]) hpr q
  refine ⟨τ, hτ, S, e, rel, lnk, ?_⟩
  cases hgl : gl e with
  | st => rw [hgl] at k; exact k
  | ex x e1 => rw [hgl] at k; exact k
  | ok rs e1 =>
    rw [hgl] at k
    intro xs S1 H1 g1 p1 f1
    obtain ⟨hl, k1, _⟩ := k xs S1 H1 g1 p1 f1
    match xs, hl, k1 with
    | [u, v, w], _, k1 => exact ⟨u, v, w, rfl, k1⟩
theorem r_mas (F : Fit X c G Φ) (gp : GP G pr) {ts : List (Nat × Bool)} {tes es : List Expr} {gl : En → RL} {kt k2 : Nat} {pt p2 : Pos} (hr : rowOk c tes es = true) (hn : nmsB c (ts.map (·.1)) tes = true) (hpr : ∀ i ∈ ts.map (·.1), i ∉ pr) (ha : PA X es (tL G gl)) (hlen : ∀ e rs e1, gl e = .ok rs e1 → rs.length < 1000) :
    PS X (.Assign [.Tuple tes kt pt] (.Tuple es k2 p2) pos) (tS G pr (semMas ts gl)) := by
  have tgok : chkTg c (.t (ts.map (·.1))) (.Tuple tes kt pt) = true := hn
  obtain ⟨u1, u2⟩ := row_sw F hr (es := es) (kt := kt) (pt := pt) (k2 := k2) (p2 := p2) (l := pos.line)
  refine PSwk (ps_asg (pe_tup ha) (s_tg F tgok).1 u2 u1) fun D σ H q => ?_
  have q0 := q
  obtain ⟨τ, hτ, S, e, rel, lnk, k⟩ := mas_read gp hpr q
  refine ⟨τ, hτ, S, e, rel, lnk, ?_⟩
  cases hgl : gl e with
  | st => rw [hgl] at k; exact k
  | ex x e1 => rw [hgl] at k; exact k
  | ok rs e1 =>
    rw [hgl] at k
    intro xs S1 H1 g1 p1 f1
    obtain ⟨l, _, k1⟩ := k xs S1 H1 g1 p1 f1
    refine ⟨?_, fun p hp => ⟨p, xs, rfl, .inl (.inl upd_same), by simp [l], gs_sets l (k1 p _ hp)⟩⟩
    have := hlen e rs e1 hgl
    rw [← p1.length]
    exact Nat.le_trans (Nat.le_of_lt this) (by decide)
end
end Vc
end
section
set_option Elab.async false
set_option linter.all false
namespace Vc
open PySem PySem.Spec PyProof.Rows L2
variable [XrC]
section
variable {X : Cx} {c : Cc} {G : Gx} {Φ : Ph} {a b : Expr} {pos : Pos} {f g : En → O} {pr : List Nat}
theorem r_ite {t : En → RT} {xs ys : List Stmt} (hc : PT X a (tT G t)) (ha : PSs X xs (tS G pr f)) (hb : PSs X ys (tS G pr g)) : PS X (.If a xs ys pos) (tS G pr fun e => (t e).bo fun b e1 => if b = true then f e1 else g e1) :=
  PSwk (ps_if hc ha hb) fun D σ H ⟨τ, hτ, S, e, rel, lnk, k⟩ => ⟨τ, hτ, S, e, rel, lnk, PB.bo k fun b e1 S1 H1 _ g1 k1 => by
    cases b with
    | true => exact ⟨τ, hτ, S1, e1, g1.rel, lnk.mono g1.sub, PO.step g1.sg k1⟩
    | false => exact ⟨τ, hτ, S1, e1, g1.rel, lnk.mono g1.sub, PO.step g1.sg k1⟩⟩
theorem r_nil : PSs X [] (tS G pr fun e => .nx e) := PSswk pss_nil fun D σ H ⟨τ, hτ, S, e, rel, lnk, k⟩ => by rw [← hτ]; exact k τ S H rel.grow.sg
theorem r_cons {st : Stmt} {rest : List Stmt} (h1 : PS X st (tS G pr f)) (h2 : PSs X rest (tS G pr g)) : PSs X (st :: rest) (tS G pr fun e => (f e).bd fun e1 => g e1) :=
  PSswk (pss_cons h1 h2) fun D σ H ⟨τ, hτ, S, e, rel, lnk, k⟩ => ⟨τ, hτ, S, e, rel, lnk, by
    cases hf : f e with
    | st => simp only [hf] at k; exact k
    | nx e1 => simp only [hf] at k; exact fun σ' S' H' g' => ⟨σ', rfl, S', e1, g'.g.rel, g'.lk lnk, PO.step g' k⟩
    | rt r e1 => simp only [hf] at k; exact k
    | bk e1 => simp only [hf] at k; exact k
    | ct e1 => simp only [hf] at k; exact k
    | ex x e1 => simp only [hf] at k; exact k⟩
theorem whl_read {t : En → RT} {D : Ends} {σ : L2.St} {H : Hp} (q : tS G pr (fun e => whl t f e) D σ H) : tWhile (tT G t) (tS G pr f) D σ H := by
  obtain ⟨τ, hτ, S, e, rel, lnk, k⟩ := q
  simp only [whl] at k
  split at k
  · rename_i hn
    have ne := Classical.choose_spec hn
    generalize hm : Classical.choose hn = n0 at k ne
    generalize ho : whlN t f n0 e = o at k ne
    refine ⟨fun m σ1 H1 => ∃ τ1, base G τ1 = σ1 ∧ ∃ S1 e1, SG G pr S H τ e S1 H1 τ1 e1 ∧ whlN t f m e1 = o, ⟨n0, τ, hτ, S, e, rel.grow.sg, ho⟩, ?_⟩
    rintro m σ1 H1 ⟨τ1, h1, S1, e1, sg, hw⟩
    cases m with
    | zero => exact absurd hw.symm ne
    | succ m =>
      simp only [whlN] at hw
      refine ⟨τ1, h1, S1, e1, sg.g.rel, sg.lk lnk, ?_⟩
      cases ht : t e1 with
      | st => rw [ht] at hw; exact absurd hw.symm ne
      | ex x e2 => rw [ht] at hw; subst hw; exact PO.px (PO.step sg k)
      | ok b e2 =>
        rw [ht] at hw
        intro S2 H2 g2
        cases b with
        | false =>
          rw [if_neg (by decide)]
          subst hw
          rw [← h1]
          exact k τ1 S2 H2 (sg.trans g2.sg)
        | true =>
          rw [if_pos rfl]
          refine ⟨fun σ3 H3 => ∃ τ3, base G τ3 = σ3 ∧ ∃ S3 e3, SG G pr S H τ e S3 H3 τ3 e3 ∧ whlN t f m e3 = o, fun σ' H' z => ⟨m, Nat.lt_succ_self m, z⟩, τ1, h1, S2, e2, g2.rel, (sg.lk lnk).mono g2.sub, ?_⟩
          simp only at hw
          cases hf : f e2 with
          | st => rw [hf] at hw; exact absurd hw.symm ne
          | nx e3 => rw [hf] at hw; exact fun σ3 S3 H3 g3 => ⟨σ3, rfl, S3, e3, (sg.trans g2.sg).trans g3, hw⟩
          | ct e3 => rw [hf] at hw; exact fun σ3 S3 H3 g3 => ⟨σ3, rfl, S3, e3, (sg.trans g2.sg).trans g3, hw⟩
          | bk e3 => rw [hf] at hw; subst hw; exact fun σ3 S3 H3 g3 => k σ3 S3 H3 ((sg.trans g2.sg).trans g3)
          | rt r e3 => rw [hf] at hw; subst hw; exact PO.step (sg.trans g2.sg) (D := { D with }) k
          | ex x e3 => rw [hf] at hw; subst hw; exact PO.step (sg.trans g2.sg) (D := { D with }) k
  · exact k.elim
theorem r_whl {t : En → RT} {xs : List Stmt} (F : Fit X c G Φ) (hc : PT X a (tT G t)) (hb : PSs X xs (tS G pr f)) : PS X (.While a xs [] pos) (tS G pr fun e => whl t f e) :=
  PSwk (ps_while F.own hc hb) fun D σ H q => whl_read q
/-- what is wanted within a loop that holds a slot's list -/
theorem po_unlock {T : List Nat} {S1 H1 : Hp} {σ : L2.St} {e1 : En} {D : Ends} {o : O} (hTn : ∀ k ∈ T, k ∉ G.nw) (q : Rel G.K S1 H1 σ e1) (k : PO G pr S1 H1 σ e1 D (unlockO e1 T o)) : PO G (pr ++ T) S1 H1 σ (wipeE e1 T) D o := by
  have back : ∀ {σ' : L2.St} {S' H' : Hp} {e' : En}, SG G (pr ++ T) S1 H1 σ (wipeE e1 T) S' H' σ' e' → SG G pr S1 H1 σ e1 S' H' σ' (backE e' e1 T) ∧ (∀ (r : RV) x, RepR G.K S' H' σ' e' r x → Frs H1 σ (wipeE e1 T) r x → RepR G.K S' H' σ' (backE e' e1 T) r x ∧ Frs H1 σ e1 r x) := by
    intro σ' S' H' e' g
    have he : e'.length = e1.length := by rw [g.g.rel.len, g.len, q.len]
    obtain ⟨gf, of⟩ := g.g.forget (e' := wipeE e' T) (σ' := σ') (by rw [wipeE_len]; exact g.g.rel.len) (fun k s hk => by
      by_cases hT : k ∈ T
      · exact .inl (wipeE_in hT hk)
      · exact .inr ⟨by rw [wipeE_out hT] at hk; exact hk, rfl⟩)
    obtain ⟨gu, nu⟩ := unwipe (σ3 := σ') q gf (fun _ _ => rfl) (fun _ _ => rfl) (fun k hk => g.pr k (List.mem_append_right _ hk) (hTn k hk)) g.len he
    refine ⟨⟨gu, fun i hi n => g.pr i (List.mem_append_left _ hi) n, g.len, g.lk⟩, fun r x p fr => ?_⟩
    have up : ∀ a, OwnAt σ (wipeE e1 T) a → OwnAt σ e1 a := fun a ⟨j, ds, h1, h2⟩ => by
      by_cases hT : j ∈ T
      · have := wipeE_in hT h1; cases this
      · rw [wipeE_out hT] at h1; exact ⟨j, ds, h1, h2⟩
    cases r with
    | v d => exact ⟨p, trivial⟩
    | b i => exact ⟨p, trivial⟩
    | o ds =>
      obtain ⟨a, xs, rfl, p1, p2, p3, p4⟩ := p
      refine ⟨⟨a, xs, rfl, p1, p2, p3, fun w => ?_⟩, fun b hb => (fr b hb).imp id (up b)⟩
      rcases fr a rfl with z | z
      · exact nu a z (fun w => p4 (of a w)) w
      · -- an own list of the loop's that isn't one of the held
        obtain ⟨k, es, w1, w2⟩ := w
        by_cases hT : k ∈ T
        · rw [backE_in hT he] at w1
          rw [g.pr k (List.mem_append_right _ hT) (hTn k hT)] at w2
          obtain ⟨j, es', z1, z2⟩ := z
          by_cases hj : j ∈ T
          · have := wipeE_in hj z1; cases this
          · rw [wipeE_out hj] at z1
            have := q.dis k j a _ _ w1 z1 w2 z2
            subst this
            exact hj hT
        · rw [backE_out hT] at w1
          exact p4 ⟨k, es, w1, w2⟩
  cases o with
  | st => exact k
  | nx e' => exact fun σ' S' H' g => k σ' S' H' (back g).1
  | rt r e' => exact fun x σ' S' H' g p fr => k x σ' S' H' (back g).1 ((back g).2 r x p fr).1 ((back g).2 r x p fr).2
  | bk e' => exact fun σ' S' H' g => k σ' S' H' (back g).1
  | ct e' => exact fun σ' S' H' g => k σ' S' H' (back g).1
  | ex x e' => exact fun cls d σ' S' H' g => k cls d σ' S' H' (back g).1
theorem for_read (gp : GP G pr) {tg : Tg} {lka : Option (Addr × List V)} {ds : List D} {J : It} {S1 H1 : Hp} {σ : L2.St} {e1 : En} {D : Ends} (hpr : ∀ i ∈ tgIx tg, i ∉ pr) (rel : Rel G.K S1 H1 σ e1) (lnk : Lk G σ S1) (hlk : ∀ a xs, lka = some (a, xs) → H1 a = some (.lst xs) ∧ ¬ OwnAt σ e1 a) (wk : Wk G.K S1 lka ds J)
    (k : PO G pr S1 H1 σ e1 D (forGo tg f ds e1)) :
    ∃ W : Nat → Nat → L2.St → Hp → Prop, (∃ m, W 0 m (base G σ) H1) ∧ ∀ i m σ H, W i m σ H →
      (J.stop i H ∧ D.nx σ H) ∨ (J.go i H ∧ ∃ N : L2.St → Hp → Prop, (∀ σ' H', N σ' H' → ∃ m', m' < m ∧ W (i + 1) m' σ' H') ∧ ∀ x H', J.yld i H x H' → tgG G.K tg x σ H' fun σ2 H2 => tS G pr f { D with nx := N, ct := N, bk := D.nx } σ2 H2) := by
  generalize ho : forGo tg f ds e1 = o at k
  have ne : o ≠ .st := fun z => by subst z; exact k
  let St' : Nat → L2.St → Hp → Prop := fun i σ' H => i ≤ ds.length ∧ ∃ τ', base G τ' = σ' ∧ ∃ S e, SG G pr S1 H1 σ e1 S H τ' e ∧ forGo tg f (ds.drop i) e = o
  refine ⟨fun i m σ' H => m = ds.length - i ∧ St' i σ' H, ⟨ds.length, by simp, Nat.zero_le _, σ, rfl, S1, e1, rel.grow.sg, by simpa using ho⟩, ?_⟩
  rintro i m σ2 H2 ⟨rfl, hi, τ2, h2, S2, e2, sg, hrest⟩
  subst h2
  have lkH : LkH lka H2 := fun a xs hl => sg.g.keep _ _ (hlk a xs hl).1 (hlk a xs hl).2
  have sub2 : Sub S1 H2 := sg.g.sub.tr sg.g.rel.sub
  by_cases hlt : i < ds.length
  · right
    refine ⟨wk.go i H2 sub2 lkH hlt, St' (i + 1), fun σ' H' z => ⟨ds.length - (i + 1), by omega, rfl, z⟩, fun x H3 hy => ?_⟩
    have hd : ds[i]? = some ds[i] := List.getElem?_eq_getElem hlt
    have hdrop : ds.drop i = ds[i] :: ds.drop (i + 1) := List.drop_eq_getElem_cons hlt
    obtain ⟨S3, gy, py⟩ := wk.yld i H2 x H3 ds[i] _ _ S2 sg.g.sub lkH sg.g.rel hy hd
    rw [hdrop] at hrest
    simp only [forGo] at hrest
    cases htg : asgT tg ds[i] e2 with
    | none => rw [htg] at hrest; exact absurd hrest.symm ne
    | some e3 =>
      rw [htg] at hrest
      simp only at hrest
      obtain ⟨σ3, tq, gt, tl, tel, tout⟩ := tg_ok (base G) (fun k hk τ x => base_set (gp.out (hpr k hk)).1) gy.rel.grow py htg
      have sg3 : SG G pr S1 H1 σ e1 S3 H3 σ3 e3 := (sg.trans gy.sg).trans (.of gp gt (fun j hj => (tout j fun z => hpr j z hj).1) tl)
      refine tq _ ⟨σ3, rfl, S3, e3, gt.rel, sg3.lk lnk, ?_⟩
      cases hf : f e3 with
      | st => rw [hf] at hrest; exact absurd hrest.symm ne
      | nx e4 => rw [hf] at hrest; exact fun σ4 S4 H4 g4 => ⟨hlt, σ4, rfl, S4, e4, sg3.trans g4, hrest⟩
      | ct e4 => rw [hf] at hrest; exact fun σ4 S4 H4 g4 => ⟨hlt, σ4, rfl, S4, e4, sg3.trans g4, hrest⟩
      | bk e4 => rw [hf] at hrest; subst hrest; exact fun σ4 S4 H4 g4 => k σ4 S4 H4 (sg3.trans g4)
      | rt r e4 => rw [hf] at hrest; subst hrest; exact PO.step sg3 (D := { D with }) k
      | ex x e4 => rw [hf] at hrest; subst hrest; exact PO.step sg3 (D := { D with }) k
  · have hi' : i = ds.length := by omega
    subst hi'
    left
    rw [List.drop_length] at hrest
    simp only [forGo] at hrest
    subst hrest
    exact ⟨wk.stop H2 sub2 lkH, k τ2 S2 H2 sg⟩
noncomputable def semFor (tg : Tg) (fI : En → RI) (f : En → O) (e : En) : O := (fI e).bo fun ds lk e1 => unlockO e1 lk.toList (forGo tg f ds (wipeE e1 lk.toList))
theorem r_for (F : Fit X c G Φ) (gp : GP G pr) {tg : Tg} {fI : En → RI} {t i : Expr} {body : List Stmt} (T : List Nat) (hTn : ∀ k ∈ T, k ∉ G.nw) (hT : ∀ e ds lk e1, fI e = .ok ds lk e1 → lk.toList ⊆ T) (hp : plainX i = true) (hi : PI X t i (tI G fI)) (ht : chkTg c tg t = true) (hpr : ∀ i ∈ tgIx tg, i ∉ pr ++ T) (hb : PSs X body (tS G (pr ++ T) f)) :
    PS X (.For t i body [] pos) (tS G pr (semFor tg fI f)) := by
  refine PSwk (ps_for F.own F.calm hi (s_tg F ht).1 hb fun x => plain_set hp) fun D σ H ⟨τ, hτ, S, e, rel, lnk, k⟩ => ⟨τ, hτ, S, e, rel, lnk, ?_⟩
  unfold semFor at k
  cases hI : fI e with
  | st => rw [hI] at k; exact k
  | ex x e1 => rw [hI] at k; exact k.px
  | ok ds lk e1 =>
    rw [hI] at k
    have k : PO G pr S H τ e D (unlockO e1 lk.toList (forGo tg f ds (wipeE e1 lk.toList))) := k
    intro S1 H1 J lka g1 hlk wk
    have sub : lk.toList ⊆ T := hT e ds lk e1 hI
    have k1 := po_unlock (fun k hk => hTn k (sub hk)) g1.rel (PO.step g1.sg k)
    -- the held list isn't seen within
    have lkN : ∀ (a : Addr) (xs : List V), lka = some (a, xs) → H1 a = some (.lst xs) ∧ ¬ OwnAt τ (wipeE e1 lk.toList) a := by
      intro a xs hl
      cases lk with
      | none => have : lka = none := hlk; rw [hl] at this; cases this
      | some i =>
        obtain ⟨b, zs, ds', h1, h2, h3, h4⟩ := hlk
        rw [hl] at h4; cases h4
        refine ⟨h3, fun ⟨j, es, h5, h6⟩ => ?_⟩
        by_cases hj : j ∈ (some i).toList
        · have := wipeE_in hj h5; cases this
        · rw [wipeE_out hj] at h5
          have := g1.rel.dis i j a _ _ h1 h5 h2 h6
          subst this
          exact hj (by simp)
    have relW : Rel G.K S1 H1 τ (wipeE e1 lk.toList) := (g1.rel.grow.forget (e' := wipeE e1 lk.toList) (σ' := τ) (by rw [wipeE_len]; exact g1.rel.len) (fun k s hk => by
      by_cases hT : k ∈ lk.toList
      · exact .inl (wipeE_in hT hk)
      · exact .inr ⟨by rw [wipeE_out hT] at hk; exact hk, rfl⟩)).1.rel
    -- more slots may be held
    have k2 : PO G (pr ++ T) S1 H1 τ (wipeE e1 lk.toList) D (forGo tg f ds (wipeE e1 lk.toList)) := by
      have wk : ∀ {σ' : L2.St} {S' H' : Hp} {e' : En}, SG G (pr ++ T) S1 H1 τ (wipeE e1 lk.toList) S' H' σ' e' → SG G (pr ++ lk.toList) S1 H1 τ (wipeE e1 lk.toList) S' H' σ' e' := fun g => ⟨g.g, fun i hi n => g.pr i (by
        rcases List.mem_append.mp hi with z | z
        · exact List.mem_append_left _ z
        · exact List.mem_append_right _ (sub z)) n, g.len, g.lk⟩
      generalize forGo tg f ds (wipeE e1 lk.toList) = o at k1
      cases o with
      | st => exact k1
      | nx e' => exact fun σ' S' H' g => k1 σ' S' H' (wk g)
      | rt r e' => exact fun x σ' S' H' g => k1 x σ' S' H' (wk g)
      | bk e' => exact fun σ' S' H' g => k1 σ' S' H' (wk g)
      | ct e' => exact fun σ' S' H' g => k1 σ' S' H' (wk g)
      | ex x e' => exact fun cls d σ' S' H' g => k1 cls d σ' S' H' (wk g)
    rw [F.K, ← hτ]
    exact for_read (fun q hq => ⟨List.mem_append_left _ (gp q hq).1, List.mem_append_left _ (gp q hq).2⟩) hpr relW (lnk.mono g1.sub) lkN wk k2
end

def vAsg : Stmt → Option (Expr × Expr)
  | .Assign [t] v _ => some (t, v)
  | _ => none
theorem vAsg_ok {s : Stmt} {t v : Expr} (h : vAsg s = some (t, v)) : ∃ p, s = .Assign [t] v p := by
  unfold vAsg at h
  split at h
  · cases h; exact ⟨_, rfl⟩
  · cases h
def vAug : Stmt → Option (Expr × Operator × Expr)
  | .AugAssign t o v _ => some (t, o, v)
  | _ => none
theorem vAug_ok {s : Stmt} {t v : Expr} {o : Operator} (h : vAug s = some (t, o, v)) : ∃ p, s = .AugAssign t o v p := by
  unfold vAug at h
  split at h
  · cases h; exact ⟨_, rfl⟩
  · cases h
def vExp : Stmt → Option Expr
  | .Expr e _ => some e
  | _ => none
theorem vExp_ok {s : Stmt} {e : Expr} (h : vExp s = some e) : ∃ p, s = .Expr e p := by
  unfold vExp at h
  split at h
  · cases h; exact ⟨_, rfl⟩
  · cases h
def vIfS : Stmt → Option (Expr × List Stmt × List Stmt)
  | .If t a b _ => some (t, a, b)
  | _ => none
theorem vIfS_ok {s : Stmt} {t : Expr} {a b : List Stmt} (h : vIfS s = some (t, a, b)) : ∃ p, s = .If t a b p := by
  unfold vIfS at h
  split at h
  · cases h; exact ⟨_, rfl⟩
  · cases h
def vWhl : Stmt → Option (Expr × List Stmt)
  | .While t a [] _ => some (t, a)
  | _ => none
theorem vWhl_ok {s : Stmt} {t : Expr} {a : List Stmt} (h : vWhl s = some (t, a)) : ∃ p, s = .While t a [] p := by
  unfold vWhl at h
  split at h
  · cases h; exact ⟨_, rfl⟩
  · cases h
def vFor : Stmt → Option (Expr × Expr × List Stmt)
  | .For t i a [] _ => some (t, i, a)
  | _ => none
theorem vFor_ok {s : Stmt} {t i : Expr} {a : List Stmt} (h : vFor s = some (t, i, a)) : ∃ p, s = .For t i a [] p := by
  unfold vFor at h
  split at h
  · cases h; exact ⟨_, rfl⟩
  · cases h
def vRet : Stmt → Option (Option Expr)
  | .Return e _ => some e
  | _ => none
theorem vRet_ok {s : Stmt} {e : Option Expr} (h : vRet s = some e) : ∃ p, s = .Return e p := by
  unfold vRet at h
  split at h
  · cases h; exact ⟨_, rfl⟩
  · cases h
def isPassS : Stmt → Bool
  | .Pass _ => true
  | _ => false
def isBrkS : Stmt → Bool
  | .Break _ => true
  | _ => false
def isCntS : Stmt → Bool
  | .Continue _ => true
  | _ => false
/-- the slots that a walk holds -/
def heldBy : Src → List Nat
  | .it _ true (.var i) => [i]
  | .enu true (.var i) => [i]
  | _ => []
def heldOk : Src → Bool
  | .it _ true (.var _) => true
  | .it _ true _ => false
  | .enu true (.var _) => true
  | .enu true _ => false
  | _ => true
theorem held_ok {Φ : Ph} {ms : Nat → List Md} {s : Src} (h : heldOk s = true) : ∀ (e : En) ds lk e1, evI Φ ms s e = .ok ds lk e1 → lk.toList ⊆ heldBy s := by
  intro e ds lk e1 he
  have var : ∀ (i : Nat) (F : RV → En → RI) , (∀ r e1 ds lk e2, F r e1 = .ok ds lk e2 → lk = none ∨ ∃ j, r = .b j ∧ lk = some j) → (evE Φ ms (.var i) e).bi F = .ok ds lk e1 → lk.toList ⊆ [i] := by
    intro i F hF h
    rw [evE] at h
    split at h
    · rcases hF _ _ _ _ _ h with rfl | ⟨j, z, rfl⟩
      · simp
      · cases z
    · rcases hF _ _ _ _ _ h with rfl | ⟨j, z, rfl⟩
      · simp
      · cases z; simp
    · rcases hF _ _ _ _ _ h with rfl | ⟨j, z, rfl⟩
      · simp
      · cases z; simp
    · cases h
  have hit : ∀ (tup : Bool) (brw : Bool) r e1 ds lk e2, itOf tup brw r e1 = .ok ds lk e2 → (lk = none ∨ ∃ j, r = .b j ∧ lk = some j) ∧ (brw = false → lk = none) := by
    intro tup brw r e1 ds lk e2 h
    unfold itOf at h
    split at h
    · split at h
      · split at h
        · cases h
        · cases h; exact ⟨.inr ⟨_, rfl, rfl⟩, fun z => by cases z⟩
      · cases h
    · cases h
    · split at h
      · split at h
        · cases h
        · cases h; exact ⟨.inl rfl, fun _ => rfl⟩
      · split at h
        · cases h; exact ⟨.inl rfl, fun _ => rfl⟩
        · cases h
      · cases h
  have hen : ∀ (brw : Bool) r e1 ds lk e2, enuOf brw r e1 = .ok ds lk e2 → (lk = none ∨ ∃ j, r = .b j ∧ lk = some j) ∧ (brw = false → lk = none) := by
    intro brw r e1 ds lk e2 h
    obtain ⟨ds', h', _⟩ := enu_it h
    exact hit _ _ _ _ _ _ _ h'
  cases s with
  | it tup brw a =>
    rw [evI] at he
    cases brw with
    | true =>
      cases a <;> simp [heldOk] at h
      exact var _ _ (fun r e1 ds lk e2 z => (hit _ _ _ _ _ _ _ z).1) he
    | false =>
      cases ha : evE Φ ms a e with
      | st => rw [ha] at he; cases he
      | ex x e2 => rw [ha] at he; cases he
      | ok r e2 =>
        rw [ha] at he
        have he : itOf tup false r e2 = .ok ds lk e1 := he
        rw [(hit _ _ _ _ _ _ _ he).2 rfl]; simp
  | enu brw a =>
    rw [evI] at he
    cases brw with
    | true =>
      cases a <;> simp [heldOk] at h
      exact var _ _ (fun r e1 ds lk e2 z => (hen _ _ _ _ _ _ z).1) he
    | false =>
      cases ha : evE Φ ms a e with
      | st => rw [ha] at he; cases he
      | ex x e2 => rw [ha] at he; cases he
      | ok r e2 =>
        rw [ha] at he
        have he : enuOf false r e2 = .ok ds lk e1 := he
        rw [(hen _ _ _ _ _ _ he).2 rfl]; simp
  | rng es =>
    rw [evI] at he
    cases ha : evL Φ ms es e with
    | st => rw [ha] at he; cases he
    | ex x e2 => rw [ha] at he; cases he
    | ok r e2 =>
      rw [ha] at he
      have he : rngOf r e2 = .ok ds lk e1 := he
      unfold rngOf at he
      split at he
      · cases he; simp
      · cases he
  | rvt a =>
    rw [evI] at he
    cases ha : evE Φ ms a e with
    | st => rw [ha] at he; cases he
    | ex x e2 => rw [ha] at he; cases he
    | ok r e2 =>
      rw [ha] at he
      have he : rvtOf r e2 = .ok ds lk e1 := he
      unfold rvtOf at he
      split at he
      · cases he; simp
      · cases he
  | chs a =>
    rw [evI] at he
    cases ha : evE Φ ms a e with
    | st => rw [ha] at he; cases he
    | ex x e2 => rw [ha] at he; cases he
    | ok r e2 =>
      rw [ha] at he
      have he : chsOf r e2 = .ok ds lk e1 := he
      unfold chsOf at he
      split at he
      · cases he; simp
      · cases he
  | zip a b =>
    rw [evI] at he
    cases ha : evE Φ ms a e with
    | st => rw [ha] at he; cases he
    | ex x e2 => rw [ha] at he; cases he
    | ok r e2 =>
      rw [ha] at he
      have he : (evE Φ ms b e2).bi (fun r' e2 => zipOf r r' e2) = .ok ds lk e1 := he
      cases hb : evE Φ ms b e2 with
      | st => rw [hb] at he; cases he
      | ex x e3 => rw [hb] at he; cases he
      | ok r' e3 =>
        rw [hb] at he
        have he : zipOf r r' e3 = .ok ds lk e1 := he
        unfold zipOf at he
        split at he
        · cases he; simp
        · cases he
end Vc
end
section
set_option Elab.async false
set_option linter.all false
namespace Vc
open PySem PySem.Spec PyProof.Rows L2
variable [XrC]
/-- a clause: its class, the slot of its name, its suite's reading -/
abbrev Cl := Value × Option Nat × Bool × (Addr → Value → Option Addr → TS)
/-- the error's object is tracked behind the suite -/
def adD (m : Bool) (a : Addr) (cls : Value) (d : Option Addr) (D : Ends) : Ends := match m with
  | false => D
  | true => { nx := fun σ' H' => D.nx σ' (upd H' a (exK a cls d)), rt := fun _ _ => False, bk := fun _ _ => False, ct := fun _ _ => False }
theorem Inv.adopt {X : Cx} {pins : List (Addr × Obj)} {σ : L2.St} {H : Hp} {s : Shared} {a : Addr} {o : HO} (I : L2.Inv X pins σ H s) (na : H a = none) (n0 : ∀ u, X.s_0.heap.get? a = some u → a ∈ X.ex) (npin : ∀ p ∈ X.pn ++ pins, p.1 ≠ a) (nL : a ≠ X.env.locals)
    (nC : ∀ x c, X.env.cells.lookup x = some c → c ≠ a) (ok : ObjOk X.prog X.w (upd H a o) s.heap a o) : L2.Inv X pins σ (upd H a o) s := by
  have sb : Sub H (upd H a o) := Sub.laid na
  refine ⟨I.ok, I.os, I.bare, ⟨I.base.keep, I.base.slot, fun b u e n hx => ?_, I.base.there, fun b xs e => sb _ _ (I.base.tups b xs e), fun b u v e => sb _ _ (I.base.frzs b u v e), fun b ps e => ?_⟩, I.loc, I.cell, ?_, fun x c e => ?_, fun p hp => ?_, fun b u e => ?_, I.len⟩
  · rw [upd_ne (fun z => by subst z; exact hx (n0 u e))]
    exact I.base.free b u e n hx
  · obtain ⟨m, q⟩ := I.base.tbls b ps e
    exact ⟨m, sb _ _ q⟩
  · rw [upd_ne nL.symm]; exact I.free
  · rw [upd_ne (nC x c e)]; exact I.freeC x c e
  · obtain ⟨e, n, r⟩ := I.pin p hp
    exact ⟨e, by rw [upd_ne (npin p hp)]; exact n, r⟩
  · by_cases hb : b = a
    · subst hb; rw [upd_same] at e; cases e; exact ok
    · rw [upd_ne hb] at e
      exact (I.hok b u e).stay (fun _ _ _ q => q) (fun _ q => sb _ _ q) fun _ _ q => sb _ _ q
theorem exK_ok {P : Program} {w : World} {H : Hp} {h : Heap} {a : Addr} {cls : Value} {d : Option Addr} {oe : Obj} {vs : Array Value} (e : h.get? a = some oe) (z : Zc cls d oe) (hd : oe.data = .fields vs) : ObjOk P w H h a (exK a cls d) :=
  ⟨⟨oe, vs, e, z, hd⟩, ⟨oe, e⟩, fun _ _ ⟨o, v, q, r⟩ k => ⟨o, v, k o q, r⟩⟩
/-- the name's slot is empty behind the suite -/
def offD (n : Option Nat) (D : Ends) : Ends := match n with
  | none => D
  | some i => { nx := fun σ' H' => D.nx (σ'.set i none) H', rt := D.rt, bk := fun σ' H' => D.bk (σ'.set i none) H', ct := fun σ' H' => D.ct (σ'.set i none) H' }
def onN (n : Option Nat) (a : Addr) (σ : L2.St) : L2.St := match n with
  | none => σ
  | some i => σ.set i (some (.ref a))
def wCl (K : Fg) (Wout : WX) (D : Ends) : List Cl → WX
  | [] => Wout
  | (c, n, m, ts) :: r => fun cls d σ H => ∃ b, PySem.W.exmOne K cls c = some b ∧ (b = true → ∀ a, H a = none → ts a cls d (adD m a cls d (offD n D)) (onN n a σ) H) ∧ (b = false → wCl K Wout D r cls d σ H)
/-- the name is that of its slot -/
def NmOk (X : Cx) : Option Nat → Option Str → Prop
  | none, none => True
  | some i, some y => X.N[i]? = some y ∧ X.env.kindOf y = some .local
  | _, _ => False
inductive ClOk (X : Cx) : List ExceptHandler → List Cl → Prop
  | nil : ClOk X [] []
  | cons {x : Str} {nm : Option Str} {n : Option Nat} {m : Bool} {c : Value} {ts : Addr → Value → Option Addr → TS} {b₀ : Stmt} {suite : List Stmt} {np pos' : Pos} {hds : List ExceptHandler} {l : List Cl} (hc : Names X x c) (hn : NmOk X n nm)
      (hsu : ∀ (a : Addr) (oe : Obj) (cls : Value) (d : Option Addr) (pn : List (Addr × Obj)), Zc cls d oe → (∃ vs, oe.data = .fields vs) → PSs (X.suite a ((a, oe) :: pn)) (b₀ :: suite) (ts a cls d)) (r : ClOk X hds l) :
      ClOk X (.ExceptHandler (some (.Name x np)) nm (b₀ :: suite) pos' :: hds) ((c, n, m, ts) :: l)
section
variable {X : Cx} {body : List Stmt} {h₀ : ExceptHandler} {hds : List ExceptHandler} {l : List Cl} {pos : Pos} {tb : WX → TS} {Wout : WX}
theorem ps_clauses (hs : X.stack = X.env :: X.outer) (hf : X.env.frame = some X.env.locals) (hN : X.N.Nodup) (tk : Takes X Wout)
    (hb : ∀ (W : WX) (pn : List (Addr × Obj)) (xe : Value → Shared → Prop), Takes (X.tr pn xe) W → PassesOwn (model X.prog X.w) X.A X.env xe → PSs (X.tr pn xe) body (tb W))
    (hh : ClOk X (h₀ :: hds) l) : PS X (.Try body (h₀ :: hds) [] [] pos) (fun D σ H => tb (wCl X.K Wout D l) D σ H) := by
  refine ⟨fun pins s σ H D I h => ?_⟩
  have ok := I.ok
  have hfm : X.A.frames = some (X.env :: X.outer) := by rw [ok.frames, hs]
  refine wpAny_Try_except ?_
  refine wpAny_mono ((hb (wCl X.K Wout D l) (X.pn ++ pins) (fun e t₁ => wpAny (model X.prog X.w) X.A (noteFrame e X.env) (fun _ t₂ => wpAny (model X.prog X.w) X.A (setFlight e none) (fun _ t₃ =>
    wpAny (model X.prog X.w) X.A (handleBy e X.env (h₀ :: hds)) (SP X pins D) X.xe t₃) X.xe t₂) X.xe t₁) (fun u s' caught => ?_) PassesOwn.looking).run [] s σ H D (I.toTry _) h) (fun f s1 behind => ?_) (fun e s1 he => he)
  · -- what is caught
    obtain ⟨a, B, s0, pnt, τ, Ht, cls, d, rfl, Jt, nb, upw, sk0, nHa, oss, bag, w⟩ := caught
    have J : Inv X pins τ Ht s0 := Jt.ofTry ok
    have skt : Sky B (X.env :: X.outer) a (Zc cls d) X.env.locals s'.heap := by rw [← hs]; exact sk0
    show wpAny (model X.prog X.w) X.A (noteFrame (.ref a) X.env) _ _ _
    refine Sky.land Zc.steady hfm hf skt fun ht3 gt3 vp3 => ?_
    have Jt3 : Inv X pins τ Ht { s' with heap := ht3 } := J.landed nb gt3.1 (upw.trans vp3) oss bag
    obtain ⟨ot3, us3, et3, zt3, dt3⟩ := gt3.there
    have noFr : ∀ {h : Heap} {o : Obj} {vs : Array Value}, h.FunFrames B (X.env :: X.outer) → h.get? a = some o → o.data = .fields vs → a ∉ frs (X.env :: X.outer) := fun {h o vs} ff e dd hm => by
      obtain ⟨_, o', e', hnf⟩ := ff.mem hm
      rw [e] at e'; cases e'
      exact hnf _ dd
    have nfm := noFr gt3.2.2.1 et3 dt3
    have nLc : a ≠ X.env.locals := fun z => nfm (List.mem_filterMap.mpr ⟨X.env, List.mem_cons_self, by rw [hf, z]⟩)
    have nFr : a ∉ X.fs := fun hm => by
      obtain ⟨e, he, q⟩ := List.mem_filterMap.mp hm
      exact nfm (List.mem_filterMap.mpr ⟨e, List.mem_cons_of_mem _ he, q⟩)
    have St3 := Jt3.suite et3 dt3 nHa nLc nFr
    have Ba : B.get? a = none := gt3.2.1
    have s0a : s0.heap.get? a = none := by
      cases e : s0.heap.get? a with
      | none => rfl
      | some o =>
        rw [nb a o e (by rw [hs]; exact nfm)] at Ba
        cases Ba
    have ad : ∀ {τ6 : L2.St} {Ht6 : Hp} {sh6 : Shared} {q : Addr × Obj}, L2.Inv (X.suite a (q :: (X.pn ++ pins))) [] τ6 Ht6 sh6 → q.1 = a → Zc cls d q.2 → (∃ vs, q.2.data = .fields vs) → L2.Inv X pins τ6 (upd Ht6 a (exK a cls d)) sh6 := fun {τ6 Ht6 sh6 q} St6 eq zq dq => by
      obtain ⟨e1, e2, _⟩ := St6.pin q (List.mem_append_left _ List.mem_cons_self)
      rw [eq] at e1 e2
      obtain ⟨vs, dq⟩ := dq
      refine Inv.adopt (St6.unsuite ok) e2 (fun u hu => ?_) (fun p hp z => ?_) nLc (fun x c hc z => ?_) (exK_ok e1 zq dq)
      · by_cases hx : a ∈ X.ex
        · exact hx
        · obtain ⟨o', q'⟩ := J.base.there a u hu hx
          rw [s0a] at q'; cases q'
      · obtain ⟨e3, _⟩ := J.pin p hp
        rw [z, s0a] at e3; cases e3
      · obtain ⟨v, o, ho, _⟩ := J.cell x c hc
        rw [z, s0a] at ho; cases ho
    have go : ∀ {hds' : List ExceptHandler} {l' : List Cl}, ClOk X hds' l' → wCl X.K Wout D l' cls d τ Ht → wpAny (model X.prog X.w) X.A (handleBy (.ref a) X.env hds') (SP X pins D) X.xe { s' with heap := ht3 } := by
      intro hds' l' hk
      induction hk with
      | nil =>
        intro w
        refine wpAny_handleBy_nil ?_
        obtain ⟨z1, z2, z3, oe, vs, T, oTb, tst, he, hz, hd, h1, hr⟩ := id gt3
        unfold PySem.passOn
        refine wpAny_bind (wpAny_field he hd h1 ?_)
        rw [if_neg (show ¬ ((Value.ref T == Value.none) = true) from by simp)]
        have flies : wpAny (model X.prog X.w) X.A (setFlight (.ref a) X.env.frame) (fun _ s4 => wpAny (model X.prog X.w) X.A (throw (.ref a) : Sem Flow) (SP X pins D) X.xe s4) X.xe { s' with heap := ht3 } := by
          rw [hf]
          refine HandSPX.setFlight_upZ gt3 fun ht4 hh4 vp4 => wpAny_throw (tk _ _ ?_)
          exact ⟨a, B, s0, pins, τ, Ht, cls, d, rfl, J, nb, (upw.trans vp3).trans vp4, .inr (.inr (by rw [hs]; exact hh4)), nHa, oss, bag, w⟩
        first
          | exact wpAny_bind (wpAny_pure (wpAny_bind flies))
          | exact wpAny_bind flies
      | @cons x nm n m c ts b₀ suite np pos' hds2 l2 hc hn hsu r ih =>
        intro w
        obtain ⟨b, wb1, wyes, wno⟩ := w
        refine wpAny_handleBy_cons (codeAny_handlers_test ?_) (by intro q; cases q)
        have LkT : PySem.W.Looks (model X.prog X.w) ht3 (typeOf (.ref a)) cls := fun A Q E s k q => wpAny_typeOf_ref (k _ _ et3) (by rw [zt3.1]; exact q)
        have LkM := PySem.W.exm_one (M := model X.prog X.w) (Jt3.kIn) LkT wb1
        have test : ∀ {Q : Value → Shared → Prop} {E : Value → Shared → Prop}, Q c { s' with heap := ht3 } → wpAny (model X.prog X.w) (X.A.mark (some (.ref a))) (eval (.Name x np) X.env) Q E { s' with heap := ht3 } := fun {Q E} q => by
          obtain ⟨hg, hdbg, hm | ⟨hm, hv, hnn⟩⟩ := hc
          · exact ld_glob (X := X.suite a ((a, ot3) :: (X.pn ++ pins))) St3 hg hm q hdbg
          · exact ld_blt (X := X.suite a ((a, ot3) :: (X.pn ++ pins))) St3 hg hm hv q hnn hdbg
        refine test (LkM.here ?_)
        cases b with
        | true =>
          cases n with
          | none =>
            cases nm with
            | some _ => exact hn.elim
            | none =>
              refine codeAny_handlers_suite ?_
              refine HandSPX.lands_againZ gt3 fun ht4 gt4 vp4 => ?_
              have Jt4 : Inv X pins τ Ht { s' with heap := ht4 } := J.landed nb gt4.1 ((upw.trans vp3).trans vp4) oss bag
              obtain ⟨ot4, us4, et4, zt4, dt4⟩ := gt4.there
              have St4 := Jt4.suite et4 dt4 nHa nLc nFr
              refine wpAny_mono ((hsu a ot4 cls d (X.pn ++ pins) zt4 ⟨_, dt4⟩).run [] _ _ Ht _ St4 (wyes rfl a nHa)) (fun f sh6 behind => ?_) (fun _ _ z => False.elim z)
              cases m with
              | true =>
                cases f with
                | next =>
                  obtain ⟨τ6, Ht6, St6, qt6⟩ := behind
                  exact ⟨_, _, ad St6 rfl zt4 ⟨_, dt4⟩, qt6⟩
                | brk =>
                  obtain ⟨τ6, Ht6, St6, qt6⟩ := behind
                  exact qt6.elim
                | cont =>
                  obtain ⟨τ6, Ht6, St6, qt6⟩ := behind
                  exact qt6.elim
                | ret u =>
                  obtain ⟨vt6, τ6, Ht6, St6, rt6, qt6⟩ := behind
                  exact qt6.elim
              | false =>
                cases f with
                | next =>
                  obtain ⟨τ6, Ht6, St6, qt6⟩ := behind
                  exact ⟨_, _, St6.unsuite ok, qt6⟩
                | brk =>
                  obtain ⟨τ6, Ht6, St6, qt6⟩ := behind
                  exact ⟨_, _, St6.unsuite ok, qt6⟩
                | cont =>
                  obtain ⟨τ6, Ht6, St6, qt6⟩ := behind
                  exact ⟨_, _, St6.unsuite ok, qt6⟩
                | ret u =>
                  obtain ⟨vt6, τ6, Ht6, St6, rt6, qt6⟩ := behind
                  exact ⟨_, _, _, St6.unsuite ok, rt6, qt6⟩
          | some i =>
            cases nm with
            | none => exact hn.elim
            | some y =>
              obtain ⟨hi, hln⟩ := hn
              have hloc : Loc X.env.scope y := .inl hln
              refine codeAny_handlers_suite_as ?_
              refine HandSPX.lands_againZ gt3 fun ht4 gt4 vp4 => ?_
              have Jt4 : Inv X pins τ Ht { s' with heap := ht4 } := J.landed nb gt4.1 ((upw.trans vp3).trans vp4) oss bag
              obtain ⟨ot4, us4, et4, zt4, dt4⟩ := gt4.there
              have St4 := Jt4.suite et4 dt4 nHa nLc nFr
              refine store_ok (X := X.suite a ((a, ot4) :: (X.pn ++ pins))) (v := .ref a) St4 hN hi hloc rfl (fun sh5 St5 => ?_) (.inr hln)
              refine wpAny_mono ((hsu a ot4 cls d (X.pn ++ pins) zt4 ⟨_, dt4⟩).run [] sh5 _ Ht _ St5 (wyes rfl a nHa)) (fun f sh6 behind => ?_) (fun _ _ z => False.elim z)
              have off_ : ∀ {τ6 : L2.St} {Ht6 : Hp} {Q : Shared → Prop}, Inv (X.suite a ((a, ot4) :: (X.pn ++ pins))) [] τ6 Ht6 sh6 → (∀ sh7, Inv X pins (τ6.set i none) Ht6 sh7 → Q sh7) →
                  wpAny (model X.prog X.w) X.A (do bindName X.env y .none; unbindBehindTheSuite X.env y pos') (fun _ sh7 => Q sh7) X.xe sh6 := fun {τ6 Ht6 Q} St6 hq => gone_ok (St6.unsuite ok) hN hi hln hq
              cases m with
              | true =>
                cases f with
                | next =>
                  obtain ⟨τ6, Ht6, St6, qt6⟩ := behind
                  exact gone_ok (ad St6 rfl zt4 ⟨_, dt4⟩) hN hi hln fun sh7 Jt7 => ⟨_, _, Jt7, qt6⟩
                | brk =>
                  obtain ⟨τ6, Ht6, St6, qt6⟩ := behind
                  exact qt6.elim
                | cont =>
                  obtain ⟨τ6, Ht6, St6, qt6⟩ := behind
                  exact qt6.elim
                | ret u =>
                  obtain ⟨vt6, τ6, Ht6, St6, rt6, qt6⟩ := behind
                  exact qt6.elim
              | false =>
                cases f with
                | next =>
                  obtain ⟨τ6, Ht6, St6, qt6⟩ := behind
                  exact off_ St6 fun sh7 Jt7 => ⟨_, _, Jt7, qt6⟩
                | brk =>
                  obtain ⟨τ6, Ht6, St6, qt6⟩ := behind
                  exact off_ St6 fun sh7 Jt7 => ⟨_, _, Jt7, qt6⟩
                | cont =>
                  obtain ⟨τ6, Ht6, St6, qt6⟩ := behind
                  exact off_ St6 fun sh7 Jt7 => ⟨_, _, Jt7, qt6⟩
                | ret u =>
                  obtain ⟨vt6, τ6, Ht6, St6, rt6, qt6⟩ := behind
                  exact off_ St6 fun sh7 Jt7 => ⟨_, _, _, Jt7, rt6, qt6⟩
        | false =>
          show wpAny _ X.A (handleBy (.ref a) X.env hds2) _ _ _
          exact ih (wno rfl)
    exact go hh w
  · cases f with
    | next =>
      obtain ⟨τ, Ht, Jt, q⟩ := behind
      exact wpAny_execs_nil ⟨τ, Ht, Jt.ofTry ok, q⟩
    | brk =>
      obtain ⟨τ, Ht, Jt, q⟩ := behind
      exact ⟨τ, Ht, Jt.ofTry ok, q⟩
    | cont =>
      obtain ⟨τ, Ht, Jt, q⟩ := behind
      exact ⟨τ, Ht, Jt.ofTry ok, q⟩
    | ret u =>
      obtain ⟨v, τ, Ht, Jt, r, q⟩ := behind
      exact ⟨v, τ, Ht, Jt.ofTry ok, r, q⟩
end
end Vc
end
section
set_option Elab.async false
set_option linter.all false
namespace Vc
open PySem PySem.Spec PyProof.Rows L2
variable [XrC]
section
variable {X : Cx} {c : Cc} {G : Gx} {Φ : Ph} {a : Expr} {pos pos2 p p2 : Pos} {g : En → R} {pr : List Nat}
/-- raise C('m') -/
theorem r_raise0 (F : Fit X c G Φ) {x m : Str} {k j : Nat} (hx : c.xs.lookup x = some ⟨k, none⟩) (hg : Gl X x) (hdb : (x == ("__debug__" : Str)) = false) :
    PS X (.Raise (some (.Call (.Name x p) [.Constant (.str m) j p2] [] pos)) none pos2) (tS G pr fun e => .ex ⟨k, none⟩ e) := by
  obtain ⟨C, E⟩ := F.xs.ent _ _ hx
  have hn : PySem.W.excIn X.K C veTail "ValueError.__new__" = true := E.how
  refine PSwk (ps_raise F.calm F.tk (pmk_own PySem.F.excBase_ValueError hn E.gC E.t.kC (raises_own E.t.exC E.t.tyC) hg hdb)) fun D σ H ⟨τ, hτ, S, e, rel, lnk, q⟩ => ?_
  rw [← hτ]
  exact q (.ref C) none τ S H rel.grow.sg (by rw [F.xr]; exact ⟨x, _, C, hx, rfl, E.gC, rfl, rfl⟩)
noncomputable def semRaise (k : Nat) (g : En → R) (e : En) : O := (g e).bo fun r e1 => match toV e1 r with
    | some (d, e2) => .ex ⟨k, some d⟩ e2
    | none => .st
theorem gone_upd {H : Hp} {a d : Addr} {f : Str} {x : V} {C : Addr} (ha : H a = none) (hda : d ≠ a) :
    upd (del (upd (upd (upd H a (exo a C none)) d (exd d [(f, x)])) a (exo a C (some d))) a) d (.xd [(f, x)]) = upd H d (.xd [(f, x)]) := by
  funext b
  by_cases hd : b = d
  · subst hd; rw [upd_same, upd_same]
  · rw [upd_ne hd, upd_ne hd]
    by_cases hb : b = a
    · subst hb; rw [del_same, ha]
    · rw [del_ne hb, upd_ne hb, upd_ne hd, upd_ne hb]
/-- raise C(e) -/
theorem r_raise1 (F : Fit X c G Φ) {x f : Str} {k : Nat} (hx : c.xs.lookup x = some ⟨k, some f⟩) (hg : Gl X x) (hdb : (x == ("__debug__" : Str)) = false) (hp : plainX a = true) (ha : PE X a (tE G g)) :
    PS X (.Raise (some (.Call (.Name x p) [a] [] pos)) none pos2) (tS G pr (semRaise k g)) := by
  obtain ⟨C, E⟩ := F.xs.ent _ _ hx
  obtain ⟨fI, fd, T, iC, tI, noF, hd, F1, hb⟩ := (show ∃ (fI : Addr) (fd : FuncData), OexC X.K C ∧ PySem.W.findIn X.K (.ref C) "__init__" = some (some (.ref fI)) ∧ PySem.W.typeIn X.K (.ref fI) = some (.type "function") ∧ PySem.W.findIn X.K (.ref C) f = some none ∧ PySem.W.hasDictIn X.K C = true ∧
        FnOk X.prog X.w X.K X.mg X.base (L2.CX X.prog X.w) 1 fI fd ["self", f] (spI C f) ∧ Binds X.K fd ["self", f] [] from E.how)
  refine PSwk (ps_raise F.calm F.tk (pmk_oex T iC tI F1 F.rm hb .nil (fun _ _ _ _ _ _ _ z => by obtain ⟨_, _, _, _, _, _, _, _, _, _, _, _, z⟩ := z; exact z.elim) hg E.gC (pa_cons ha pa_nil (star_cons hp)) hdb (star_cons hp) (by rfl))) fun D σ H ⟨τ, hτ, S, e, rel, lnk, q⟩ => ?_
  have q : PO G pr S H τ e D ((g e).bo fun r e1 => match toV e1 r with
    | some (d, e2) => .ex ⟨k, some d⟩ e2
    | none => .st) := q
  refine ⟨τ, hτ, S, e, rel, lnk, PR.bo q fun r e1 v S1 H1 _ g1 p1 f1 k1 => ?_⟩
  refine ⟨by simp, fun ad had => ?_⟩
  split at k1
  · rename_i d e2 hv
    obtain ⟨S2, g2, _, pv⟩ := toV_ok g1 p1 f1 hv
    refine ⟨ad, v, rfl, upd_same, fun dx hn hne => ⟨rfl, dx, [(f, v)], upd_same, ?_, ?_, ?_⟩⟩
    · rw [upd_ne hne]; exact upd_same
    · rw [← hn, upd_ne hne]
    · have hdx : H1 dx = none := by rw [← hn, upd_ne hne]
      rw [gone_upd had hne]
      rw [← hτ]
      exact k1 (.ref C) (some dx) τ S2 _ (g2.laid hdx).sg (by rw [F.xr]; exact ⟨x, _, C, hx, rfl, E.gC, rfl, dx, v, rfl, upd_same, by rw [F.K]; exact pv.1⟩)
  · exact k1.elim
end
end Vc
end
section
set_option Elab.async false
set_option linter.all false
namespace Vc
open PySem PySem.Spec PyProof.Rows L2
variable [XrC]
structure Hs (G : Gx) (n : Option Nat) (a : Addr) (cls : Value) (d : Option Addr) (x : Xn) (S H : Hp) (σ : L2.St) (en : En) : Prop where
  rel : Rel G.K S H σ en
  xr : G.xr S H x cls d
  nm : ∀ i, n = some i → σ[i]? = some (some (.ref a)) ∧ i ∉ G.gh.map (·.1)
section
variable (G : Gx) (n : Option Nat) (a : Addr) (cls : Value) (d : Option Addr) (x : Xn) (h : Hx)
def tHx : TE := fun σ H Q => ∃ τ, base G τ = σ ∧ ∃ S en v, Hs G n a cls d x S H τ en ∧ evH x en h = some v ∧ ∀ y S' H', Grow G.K S H τ en S' H' τ en → Rp G.K S' y v → Q y H'
def tHt : TT := fun σ H Q => ∃ τ, base G τ = σ ∧ ∃ S en b, Hs G n a cls d x S H τ en ∧ evH x en h = some (.bool b) ∧ ∀ S' H', Grow G.K S H τ en S' H' τ en → Q b H'
end
def chkFld (c : Cc) (k : Nat) (n : Option Nat) (f : Str) (e : Expr) : Bool := match vAttr e, n with
    | some (o, g, _), some i => decide (g = f) && (nameIs c i o && (decide (2 ≤ k) && c.xs.any fun p => decide (c.xs.lookup p.1 = some ⟨k, some f⟩)))
    | _, _ => false
def chkH (c : Cc) (k : Nat) (n : Option Nat) : Hx → Expr → Bool
  | .int i, e => match vConst e with
    | some (.int j) => decide (i = j)
    | _ => false
  | .str i, e => match vConst e with
    | some (.str j) => decide (i = j)
    | _ => false
  | .bl i, e => match vConst e with
    | some (.bool j) => decide (i = j)
    | _ => false
  | .non, e => isCNone (vConst e)
  | .fld f, e => chkFld c k n f e
  | .isC k2, e => match vCall e, n with
    | some (fn, [o, cl], [], _), some i => named c fn "isinstance" && (plainX o && (nameIs c i o && (match vName cl with
      | some y => glB c.sc y && (if k2 = 1 then decide (y = "ValueError") else match c.xs.lookup y with
        | some xi => decide (xi.id = k2)
        | none => false)
      | none => false)))
    | _, _ => false
  | .nt a, e => match vUn e with
    | some (op, x) => isNotU op && chkH c k n a x
    | none => false
  | .bop cc a b, e => match vBop e with
    | some (op, [x, y]) => decide (boolOf op = cc) && (chkH c k n a x && chkH c k n b y)
    | _ => false
  | .ite t a b, e => match vIf e with
    | some (x, y, z) => chkH c k n t x && (chkH c k n a y && chkH c k n b z)
    | none => false
  | .tup2 a b, e => match vTup e with
    | some [x, y] => plainX x && (plainX y && (chkH c k n a x && chkH c k n b y))
    | _ => false
  | .veq i k2, e => match vCmp e with
    | some (l, [op], [r]) => decide (cpOf op = some .eq) && (nameIs c i l && (match vConst r with
      | some (.int j) => decide (j = k2)
      | _ => false))
    | _ => false
  | .cat s f, e => match vBin e with
    | some (l, op, r) => decide (opOf op = some .add) && ((match vConst l with
      | some (.str z) => decide (z = s)
      | _ => false) && (match vCall r with
      | some (fn, [y], [], _) => named c fn "repr" && (plainX y && chkFld c k n f y)
      | _ => false))
    | none => false
  | .ng i, e => match vUn e with
    | some (op, x) => isSubU op && (match vConst x with
      | some (.int j) => decide (i = j)
      | _ => false)
    | none => false
  | .me, _ => false
section
variable {X : Cx} {c : Cc} {G : Gx} {Φ : Ph} {e : Expr} {hx : Hx} {n : Option Nat} {a : Addr} {oe : Obj} {cls : Value} {d : Option Addr} {x : Xn} {pn : List (Addr × Obj)}
theorem Hs.grow (F : Fit X c G Φ) {S H S' H' : Hp} {σ : L2.St} {en : En} (h : Hs G n a cls d x S H σ en) (g : Grow G.K S H σ en S' H' σ en) : Hs G n a cls d x S' H' σ en :=
  ⟨g.rel, by
    have q := h.xr
    rw [F.xr, F.K] at q ⊢
    exact xr_grow h.rel g q, h.nm⟩
/-- the error as the suite has it -/
theorem Hs.at (F : Fit X c G Φ) {S H : Hp} {σ : L2.St} {en : En} (h : Hs G n a cls d x S H σ en) : ∃ y yi C, c.xs.lookup y = some yi ∧ yi.id = x.c ∧ X.mg y = some (.ref C) ∧ cls = .ref C ∧ XcT X.K C ∧ match yi.f, x.f with
    | none, none => d = none
    | some f, some fd => ∃ dd v, d = some dd ∧ H dd = some (.xd [(f, v)]) ∧ Rp X.K S v fd
    | _, _ => False := by
  have q := h.xr
  rw [F.xr] at q
  obtain ⟨y, yi, C, h1, h2, h3, h4, h5⟩ := q
  obtain ⟨C2, E⟩ := F.xs.ent y yi h1
  have e := E.gC
  rw [h3] at e; cases e
  exact ⟨y, yi, C, h1, h2, h3, h4, E.t, h5⟩
/-- isinstance(e, C) of the error that the suite holds -/
theorem call_isx (F : Fit X c G Φ) (nx : c.xs ≠ []) (hz : Zc cls d oe) (hf : ∃ vs, oe.data = .fields vs) :
    CallR (X.suite a ((a, oe) :: pn)) (.builtin "isinstance") (fun xs H Q => ∃ (cv : V) (u : Value) (b : Bool) (C : Addr), xs = [.ref a, cv] ∧ ClsV cv u ∧ cls = .ref C ∧ XcT X.K C ∧ (d = none ∨ ∃ dd fs, d = some dd ∧ H dd = some (.xd fs)) ∧ PySem.W.kitOne X.K (.ref C) u = some b ∧ Q (.bl b) H) := by
  intro pins s σ H xs us Q I r h
  obtain ⟨cv, u, b, C, rfl, hc, hcl, t, hd, hk, q⟩ := h
  obtain ⟨u1, u2, rfl, r1, r2⟩ := vals2 r
  have e2 := hc.eq r2
  subst e2
  cases (show u1 = Value.ref a from r1)
  subst hcl
  obtain ⟨ha, _⟩ := I.pin (a, oe) (List.mem_append_left _ List.mem_cons_self)
  obtain ⟨vs, hdat⟩ := hf
  have gg := F.xs.g
  have noc : PySem.W.notCls oe = true := by unfold PySem.W.notCls; rw [hdat] <;> rfl
  have inst : ∃ od, PySem.W.InstAt s.heap a oe C od := by
    rcases hd with rfl | ⟨dd, fs, rfl, hdd⟩
    · refine ⟨none, ha, hz.1, noc, ?_⟩
      rw [hz.2]
      trivial
    · have hox : ObjOk X.prog X.w H s.heap dd (.xd fs) := I.hok dd _ hdd
      obtain ⟨mA, hns, hr⟩ := hox
      obtain ⟨od, ho, hl⟩ := lookIn_ns hns
      refine ⟨some od, ha, hz.1, noc, ?_⟩
      rw [hz.2]
      exact ho
  obtain ⟨od, J⟩ := inst
  exact PySem.W.kia_one (PySem.W.kitx_exc (x := a) (ox := oe) (od := od) t.cl t.ga t.gg t.exC t.dc (gg nx).n1 (gg nx).n2 t.mo) I.kIn J hk (fun z => by cases z) fun tk => ⟨.bl b, H, I.tok tk, rfl, q⟩
theorem ht_of (h : PE (X.suite a ((a, oe) :: pn)) e (tHx G n a cls d x hx)) (hp : plainT e = true) : PT (X.suite a ((a, oe) :: pn)) e (tHt G n a cls d x hx) := by
  refine PTwk (pt_val h fun whole => ?_) fun σ H Q ⟨τ, hτ, S, en, b, hs, ev, k⟩ => ⟨τ, hτ, S, en, .bool b, hs, ev, fun y S' H' g p => ?_⟩
  · unfold PySem.isTrue
    split <;> first | rfl | (simp [plainT] at hp)
  · cases p
    exact ⟨b, rfl, k S' H' g⟩
/-- the reading of a part -/
theorem hb_of {σ : L2.St} {H : Hp} {Q : Bool → Hp → Prop} (h : tHt G n a cls d x hx σ H Q) : tHx G n a cls d x hx σ H fun y H1 => ∃ b, y = .bl b ∧ Q b H1 := by
  obtain ⟨τ, hτ, S, en, b, hs, ev, k⟩ := h
  exact ⟨τ, hτ, S, en, .bool b, hs, ev, fun y S' H' g p => by cases p; exact ⟨b, rfl, k S' H' g⟩⟩
theorem s_name (F : Fit X c G Φ) {i : Nat} {o : Expr} (h : nameIs c i o = true) : PE (X.suite a ((a, oe) :: pn)) o (tVar i) := by
  obtain ⟨y, p, rfl, h1, h2, h3, h4⟩ := name_ok h
  exact pe_var (X := X.suite a ((a, oe) :: pn)) (i := i) (by show X.N[i]? = some y; rw [F.N]; exact h1) (by show Vis X.env.scope y; rw [F.sc]; exact visB_ok h2) h3 h4
theorem sound_fld (F : Fit X c G Φ) (hz : Zc cls d oe) (hf : ∃ vs, oe.data = .fields vs) {k : Nat} (hk : subX x.c k = true) (f : Str) {e : Expr} (h : chkFld c k n f e = true) :
    PE (X.suite a ((a, oe) :: pn)) e (tHx G n a cls d x (.fld f)) ∧ plainT e = true := by
  unfold chkFld at h
  split at h
  · rename_i o g p2 i hv
    obtain ⟨h1, u1⟩ := and2 h
    obtain ⟨h2, u2⟩ := and2 u1
    obtain ⟨h3, h4⟩ := and2 u2
    obtain ⟨p, hp, h4⟩ := List.any_eq_true.mp h4
    have h4 := of_decide_eq_true h4
    have h3 : 2 ≤ k := of_decide_eq_true h3
    have hgf : g = f := of_decide_eq_true h1
    subst hgf
    obtain rfl := vAttr_ok hv
    have hxk : x.c = k := by
      simp only [subX, Bool.or_eq_true, decide_eq_true_eq] at hk
      omega
    obtain ⟨y, q, rfl, _⟩ := name_ok h2
    have r : PE (X.suite a ((a, oe) :: pn)) (.Attribute (.Name y q) g p2) (tHx G (some i) a cls d x (.fld g)) := by
      refine ⟨fun pins s σ H Q I ⟨τ, hτ, S, en, v, hs, ev, kq⟩ => ?_⟩
      refine attr_of (by rfl) (thn ((s_name F h2).run pins s σ H (fun z H1 => z = .ref a ∧ H = H1) I ⟨_, at_base hτ (hs.nm i rfl).2 (hs.nm i rfl).1, rfl, rfl⟩) fun u s1 ⟨z, H1, I1, rz, ez, eH⟩ => ?_)
      subst ez eH
      cases (show u = Value.ref a from rz)
      obtain ⟨y1, yi, C, hy, hid, gy, rfl, t, hm⟩ := hs.at F
      have : y1 = p.1 := F.xs.ids _ _ _ _ hy h4 (by rw [hid, hxk])
      subst this
      rw [h4] at hy
      cases hy
      simp only [evH] at ev
      rw [ev] at hm
      obtain ⟨dd, fv, rfl, hdd, hp⟩ := (show ∃ dd v, d = some dd ∧ H dd = some (.xd [(g, v)]) ∧ Rp X.K S v _ from hm)
      obtain ⟨C2, E⟩ := F.xs.ent _ _ h4
      have gC := E.gC
      rw [gy] at gC; cases gC
      obtain ⟨fI, fd, T, iC, tI, noF, hd, F1, hb⟩ := (show ∃ (fI : Addr) (fd : FuncData), OexC X.K C ∧ PySem.W.findIn X.K (.ref C) "__init__" = some (some (.ref fI)) ∧ PySem.W.typeIn X.K (.ref fI) = some (.type "function") ∧ PySem.W.findIn X.K (.ref C) g = some none ∧ PySem.W.hasDictIn X.K C = true ∧
        FnOk X.prog X.w X.K X.mg X.base (L2.CX X.prog X.w) 1 fI fd ["self", g] (spI C g) ∧ Binds X.K fd ["self", g] [] from E.how)
      obtain ⟨ha, _⟩ := I1.pin (a, oe) (List.mem_append_left _ List.mem_cons_self)
      obtain ⟨vs, hdat⟩ := hf
      have hox : ObjOk X.prog X.w H s1.heap dd (.xd [(g, fv)]) := I1.hok dd _ hdd
      obtain ⟨mA, hns, hr⟩ := hox
      obtain ⟨od, ho, hl⟩ := lookIn_ns hns
      have l : List.lookup g [(g, fv)] = some fv := by simp [List.lookup]
      obtain ⟨u, hu, ru⟩ := RelO.some_of (v := fv) (o := mA g) (by rw [← l]; exact hr g)
      have J : PySem.W.InstAt s1.heap a oe C (some od) := ⟨ha, hz.1, by unfold PySem.W.notCls; rw [hdat] <;> rfl, by rw [hz.2]; exact ho⟩
      rw [F.K] at hp
      exact HandSPX.exc_get I1.kIn J t.ga t.gg t.exC (PySem.W.findObj_own hd noF rfl (by rw [hl, hu])) (handed_of ru) ⟨fv, H, I1.tok _, ru, kq fv S H hs.rel.grow hp⟩
    exact ⟨r, rfl⟩
  · cases h
theorem soundH (F : Fit X c G Φ) (hz : Zc cls d oe) (hf : ∃ vs, oe.data = .fields vs) {k : Nat} (hk : subX x.c k = true) : ∀ (h : Hx) {e : Expr}, chkH c k n h e = true →
    PE (X.suite a ((a, oe) :: pn)) e (tHx G n a cls d x h) ∧ PT (X.suite a ((a, oe) :: pn)) e (tHt G n a cls d x h)
  | .int i, e, h => by
    simp only [chkH] at h
    split at h
    · rename_i j hv
      obtain rfl := of_decide_eq_true h
      obtain ⟨kk, p, rfl⟩ := vConst_ok hv
      have r : PE (X.suite a ((a, oe) :: pn)) (.Constant (.int i) kk p) (tHx G n a cls d x (.int i)) := PEwk pe_int fun σ H Q ⟨τ, hτ, S, en, v, hs, ev, q⟩ => by
        simp only [evH] at ev; cases ev
        exact q (.int i) S H hs.rel.grow (.int i)
      exact ⟨r, ht_of r rfl⟩
    · cases h
  | .str i, e, h => by
    simp only [chkH] at h
    split at h
    · rename_i j hv
      obtain rfl := of_decide_eq_true h
      obtain ⟨kk, p, rfl⟩ := vConst_ok hv
      have r : PE (X.suite a ((a, oe) :: pn)) (.Constant (.str i) kk p) (tHx G n a cls d x (.str i)) := PEwk pe_str fun σ H Q ⟨τ, hτ, S, en, v, hs, ev, q⟩ => by
        simp only [evH] at ev; cases ev
        exact q (.str i) S H hs.rel.grow (.str i)
      exact ⟨r, ht_of r rfl⟩
    · cases h
  | .bl i, e, h => by
    simp only [chkH] at h
    split at h
    · rename_i j hv
      obtain rfl := of_decide_eq_true h
      obtain ⟨kk, p, rfl⟩ := vConst_ok hv
      have r : PE (X.suite a ((a, oe) :: pn)) (.Constant (.bool i) kk p) (tHx G n a cls d x (.bl i)) := PEwk pe_bl fun σ H Q ⟨τ, hτ, S, en, v, hs, ev, q⟩ => by
        simp only [evH] at ev; cases ev
        exact q (.bl i) S H hs.rel.grow (.bl i)
      exact ⟨r, ht_of r rfl⟩
    · cases h
  | .non, e, h => by
    simp only [chkH] at h
    obtain ⟨kk, p, rfl⟩ := vConst_ok (isCNone_ok h)
    have r : PE (X.suite a ((a, oe) :: pn)) (.Constant .none kk p) (tHx G n a cls d x .non) := PEwk pe_non fun σ H Q ⟨τ, hτ, S, en, v, hs, ev, q⟩ => by
      simp only [evH] at ev; cases ev
      exact q .non S H hs.rel.grow .non
    exact ⟨r, ht_of r rfl⟩
  | .fld f, e, h => by
    simp only [chkH] at h
    obtain ⟨r, hp⟩ := sound_fld F hz hf hk f h
    exact ⟨r, ht_of r hp⟩
  | .isC k2, e, h => by
    simp only [chkH] at h
    split at h
    · rename_i fn o cl p i hv
      obtain ⟨h1, u1⟩ := and2 h
      obtain ⟨hpo, u2⟩ := and2 u1
      obtain ⟨h2, u3⟩ := and2 u2
      obtain rfl := vCall_ok hv
      clear u1 u2 h
      split at u3
      · rename_i y hy
        obtain ⟨p2, rfl⟩ := vName_ok hy
        obtain ⟨h3, h4⟩ := and2 u3
        obtain ⟨p1, rfl, hg, _⟩ := named_ok F h1
        obtain ⟨hgy, hdb⟩ := glB_ok F h3
        have main : ∀ (cv : V) (u : Value), PE (X.suite a ((a, oe) :: pn)) (.Name y p2) (tC cv) → ClsV cv u → (∀ y1 yi C, c.xs.lookup y1 = some yi → yi.id = x.c → X.mg y1 = some (.ref C) → XcT X.K C → PySem.W.kitOne X.K (.ref C) u = some (subX x.c k2)) →
            PE (X.suite a ((a, oe) :: pn)) (.Call (.Name "isinstance" p1) [o, .Name y p2] [] p) (tHx G (some i) a cls d x (.isC k2)) := fun cv u hc hcv hkit => by
          refine ⟨fun pins s σ H Q I hq => ?_⟩
          have nx : c.xs ≠ [] := by
            obtain ⟨τ, hτ, S, en, v, hs, ev, kq⟩ := hq
            obtain ⟨y1, yi, C, hy1, _⟩ := hs.at F
            intro z
            rw [z] at hy1
            cases hy1
          refine (pe_callB (X := X.suite a ((a, oe) :: pn)) (call_isx F nx hz hf) hg (F.blt _ (by decide)) (by decide +kernel) (pa_cons (s_name F h2) (pa_cons hc pa_nil rfl) (star_cons hpo)) (by decide) (by decide) (star_cons hpo) rfl).run pins s σ H Q I ?_
          obtain ⟨τ, hτ, S, en, v, hs, ev, kq⟩ := hq
          obtain ⟨y1, yi, C, hy1, hid, gy, hcl, t, hm⟩ := hs.at F
          refine ⟨_, at_base hτ (hs.nm i rfl).2 (hs.nm i rfl).1, cv, u, subX x.c k2, C, rfl, hcv, hcl, t, ?_, hkit y1 yi C hy1 hid gy t, ?_⟩
          · split at hm
            · exact .inl hm
            · obtain ⟨dd, fv, e1, e2, _⟩ := hm
              exact .inr ⟨dd, _, e1, e2⟩
            · exact hm.elim
          · simp only [evH] at ev
            cases ev
            exact kq _ S H hs.rel.grow (.bl _)
        have r : PE (X.suite a ((a, oe) :: pn)) (.Call (.Name "isinstance" p1) [o, .Name y p2] [] p) (tHx G (some i) a cls d x (.isC k2)) := by
          by_cases hk2 : k2 = 1
          · rw [if_pos hk2] at h4
            obtain rfl := of_decide_eq_true h4
            subst hk2
            exact main (.ty "ValueError") (.type "ValueError") (pe_bltn (X := X.suite a ((a, oe) :: pn)) (u := .type "ValueError") hgy (F.blt _ (by decide)) (by decide +kernel) rfl (by decide) (by decide)) (.ty _) fun y1 yi C _ _ _ t => by rw [kit_ve t]; simp [subX]
          · rw [if_neg hk2] at h4
            split at h4
            · rename_i xi hxi
              have hxi2 := of_decide_eq_true h4
              obtain ⟨C2, E⟩ := F.xs.ent _ _ hxi
              exact main (.ref C2) (.ref C2) (pe_glob (X := X.suite a ((a, oe) :: pn)) hgy E.gC rfl hdb) (.own _) fun y1 yi C hy1 hid gy _ => by rw [F.xs.kit hy1 hxi gy E.gC, hid, hxi2]
            · cases h4
        exact ⟨r, ht_of r rfl⟩
      · cases u3
    · cases h
  | .ng i, e, h => by
    simp only [chkH] at h
    split at h
    · rename_i op y hv
      obtain ⟨h1, h2⟩ := and2 h
      obtain ⟨p, rfl⟩ := vUn_ok hv
      obtain rfl := isSubU_ok h1
      split at h2
      · rename_i j hv2
        obtain rfl := of_decide_eq_true h2
        obtain ⟨kk, p2, rfl⟩ := vConst_ok hv2
        have r : PE (X.suite a ((a, oe) :: pn)) (.UnaryOp .USub (.Constant (.int i) kk p2) p) (tHx G n a cls d x (.ng i)) := PEwk (pe_un un_neg pe_int) fun σ H Q ⟨τ, hτ, S, en, v, hs, ev, q⟩ => by
          simp only [evH] at ev; cases ev
          exact ⟨i, rfl, q (.int (-i)) S H hs.rel.grow (.int (-i))⟩
        exact ⟨r, ht_of r rfl⟩
      · cases h2
    · cases h
  | .nt b, e, h => by
    simp only [chkH] at h
    split at h
    · rename_i op y hv
      obtain ⟨h1, h2⟩ := and2 h
      obtain ⟨p, rfl⟩ := vUn_ok hv
      obtain rfl := isNotU_ok h1
      obtain ⟨r1, r2⟩ := soundH F hz hf hk b h2
      refine ⟨PEwk (pe_not r1) fun σ H Q ⟨τ, hτ, S, en, v, hs, ev, q⟩ => ?_, PTwk (pt_not r2) fun σ H Q ⟨τ, hτ, S, en, v, hs, ev, q⟩ => ?_⟩
      · simp only [evH] at ev
        split at ev
        · rename_i t ht
          cases ev
          exact ⟨τ, hτ, S, en, .bool t, hs, ht, fun z S' H' g p => by cases p; exact ⟨t, rfl, q _ S' H' g (.bl _)⟩⟩
        · cases ev
      · simp only [evH] at ev
        split at ev
        · rename_i t ht
          have e2 : (!t) = v := by injection ev with ev; injection ev
          subst e2
          exact ⟨τ, hτ, S, en, t, hs, ht, fun S' H' g => q S' H' g⟩
        · cases ev
    · cases h
  | .bop cc b b', e, h => by
    simp only [chkH] at h
    split at h
    · rename_i op e1 e2 hv
      obtain ⟨h1, u1⟩ := and2 h
      obtain ⟨h2, h3⟩ := and2 u1
      obtain ⟨p, rfl⟩ := vBop_ok hv
      obtain rfl := boolOf_ok (of_decide_eq_true h1)
      obtain ⟨r1, r1'⟩ := soundH F hz hf hk b h2
      obtain ⟨r2, r2'⟩ := soundH F hz hf hk b' h3
      have rd : ∀ {S : Hp} {H : Hp} {σ : L2.St} {en : En} {v : D}, evH x en (.bop cc b b') = some v → ∃ t, evH x en b = some (.bool t) ∧ ((t = cc ∧ ∃ u, evH x en b' = some (.bool u) ∧ v = .bool u) ∨ (t ≠ cc ∧ v = .bool t)) := fun {S H σ en v} ev => by
        simp only [evH] at ev
        split at ev
        · rename_i t ht
          refine ⟨t, ht, ?_⟩
          by_cases hc : t = cc
          · rw [if_pos hc] at ev
            split at ev
            · rename_i u hu
              cases ev
              exact .inl ⟨hc, u, hu, rfl⟩
            · cases ev
          · rw [if_neg hc] at ev
            cases ev
            exact .inr ⟨hc, rfl⟩
        · cases ev
      -- as a value
      have pe : PE (X.suite a ((a, oe) :: pn)) (.BoolOp (bopA cc) [e1, e2] p) (tHx G n a cls d x (.bop cc b b')) := by
        have one : PE (X.suite a ((a, oe) :: pn)) (.BoolOp (bopA cc) [e2] p) (tHx G n a cls d x b') := pe_one r2
        have key : ∀ σ H Q, tHx G n a cls d x (.bop cc b b') σ H Q → tHx G n a cls d x b σ H fun y H1 => ∃ t, y = .bl t ∧ if t = cc then tHx G n a cls d x b' σ H1 Q else Q (.bl t) H1 := fun σ H Q ⟨τ, hτ, S, en, v, hs, ev, q⟩ => by
          obtain ⟨t, ht, hh⟩ := rd (S := S) (H := H) (σ := σ) ev
          refine ⟨τ, hτ, S, en, .bool t, hs, ht, fun y S1 H1 g1 p1 => ?_⟩
          cases p1
          refine ⟨t, rfl, ?_⟩
          rcases hh with ⟨hc, u, hu, rfl⟩ | ⟨hc, rfl⟩
          · rw [if_pos hc]
            exact ⟨τ, hτ, S1, en, .bool u, hs.grow F g1, hu, fun z S2 H2 g2 p2 => q z S2 H2 (g1.trans g2) p2⟩
          · rw [if_neg hc]
            exact q _ S1 H1 g1 (.bl _)
        cases cc with
        | true =>
          refine PEwk (pe_and r1 one) fun σ H Q q => ?_
          obtain ⟨τ, hτ, S, en, v, hs, ev, k⟩ := key σ H Q q
          refine ⟨τ, hτ, S, en, v, hs, ev, fun y S1 H1 g1 p1 => ?_⟩
          obtain ⟨t, rfl, k1⟩ := k y S1 H1 g1 p1
          refine ⟨t, rfl, ?_⟩
          cases t <;> exact k1
        | false =>
          refine PEwk (pe_or r1 one) fun σ H Q q => ?_
          obtain ⟨τ, hτ, S, en, v, hs, ev, k⟩ := key σ H Q q
          refine ⟨τ, hτ, S, en, v, hs, ev, fun y S1 H1 g1 p1 => ?_⟩
          obtain ⟨t, rfl, k1⟩ := k y S1 H1 g1 p1
          refine ⟨t, rfl, ?_⟩
          cases t <;> exact k1
      have pt : PT (X.suite a ((a, oe) :: pn)) (.BoolOp (bopA cc) [e1, e2] p) (tHt G n a cls d x (.bop cc b b')) := by
        have key : ∀ σ H Q, tHt G n a cls d x (.bop cc b b') σ H Q → tHt G n a cls d x b σ H fun t H1 => if t = cc then tHt G n a cls d x b' σ H1 Q else Q t H1 := fun σ H Q ⟨τ, hτ, S, en, v, hs, ev, q⟩ => by
          obtain ⟨t, ht, hh⟩ := rd (S := S) (H := H) (σ := σ) ev
          refine ⟨τ, hτ, S, en, t, hs, ht, fun S1 H1 g1 => ?_⟩
          rcases hh with ⟨hc, u, hu, he⟩ | ⟨hc, he⟩
          · rw [if_pos hc]
            cases he
            exact ⟨τ, hτ, S1, en, _, hs.grow F g1, hu, fun S2 H2 g2 => q S2 H2 (g1.trans g2)⟩
          · rw [if_neg hc]
            cases he
            exact q S1 H1 g1
        cases cc with
        | true =>
          refine PW.pt ⟨fun wh pins s σ H Q I h => (pw_and r1' (pw_and1 r2')).run wh pins s σ H Q I ?_⟩
          obtain ⟨τ, hτ, S, en, v, hs, ev, k⟩ := key σ H Q h
          refine ⟨τ, hτ, S, en, v, hs, ev, fun S1 H1 g1 => ?_⟩
          have := k S1 H1 g1
          cases v <;> exact this
        | false =>
          refine PW.pt ⟨fun wh pins s σ H Q I h => (pw_or r1' (pw_or1 r2')).run wh pins s σ H Q I ?_⟩
          obtain ⟨τ, hτ, S, en, v, hs, ev, k⟩ := key σ H Q h
          refine ⟨τ, hτ, S, en, v, hs, ev, fun S1 H1 g1 => ?_⟩
          have := k S1 H1 g1
          cases v <;> exact this
      exact ⟨pe, pt⟩
    · cases h
  | .ite t b b', e, h => by
    simp only [chkH] at h
    split at h
    · rename_i et e1 e2 hv
      obtain ⟨h1, h2⟩ := and2 h
      obtain ⟨h2, h3⟩ := and2 h2
      obtain ⟨p, rfl⟩ := vIf_ok hv
      obtain ⟨_, r1⟩ := soundH F hz hf hk t h1
      obtain ⟨r2, r2'⟩ := soundH F hz hf hk b h2
      obtain ⟨r3, r3'⟩ := soundH F hz hf hk b' h3
      refine ⟨PEwk (pe_ifExp r1 r2 r3) fun σ H Q ⟨τ, hτ, S, en, v, hs, ev, q⟩ => ?_, ⟨fun pins s σ H Q I ⟨τ, hτ, S, en, v, hs, ev, q⟩ => isTrue_ifExp ?_⟩⟩
      · simp only [evH] at ev
        split at ev
        · rename_i u hu
          refine ⟨τ, hτ, S, en, u, hs, hu, fun S' H' g => ?_⟩
          cases u with
          | true =>
            simp only [if_true] at ev
            exact ⟨τ, hτ, S', en, v, hs.grow F g, ev, fun z S2 H2 g2 p => q z S2 H2 (g.trans g2) p⟩
          | false =>
            simp only [Bool.false_eq_true, if_false] at ev
            exact ⟨τ, hτ, S', en, v, hs.grow F g, ev, fun z S2 H2 g2 p => q z S2 H2 (g.trans g2) p⟩
        · cases ev
      · simp only [evH] at ev
        split at ev
        · rename_i u hu
          refine wpAny_mono (r1.run pins s σ H (fun cc H1 => if cc = true then tHt G n a cls d x b σ H1 Q else tHt G n a cls d x b' σ H1 Q) I ⟨τ, hτ, S, en, u, hs, hu, fun S' H' g => ?_⟩) (fun cc s1 ⟨H1, I1, q1⟩ => ?_) fun _ _ z => z
          · cases u with
            | true =>
              simp only [if_true] at ev ⊢
              exact ⟨τ, hτ, S', en, v, hs.grow F g, ev, fun S2 H2 g2 => q S2 H2 (g.trans g2)⟩
            | false =>
              simp only [Bool.false_eq_true, if_false] at ev ⊢
              exact ⟨τ, hτ, S', en, v, hs.grow F g, ev, fun S2 H2 g2 => q S2 H2 (g.trans g2)⟩
          · cases cc with
            | true => exact r2'.run pins s1 σ H1 Q I1 q1
            | false => exact r3'.run pins s1 σ H1 Q I1 q1
        · cases ev
    · cases h
  | .tup2 b b', e, h => by
    simp only [chkH] at h
    split at h
    · rename_i e1 e2 hv
      obtain ⟨h1, h2⟩ := and2 h
      obtain ⟨h2, h3⟩ := and2 h2
      obtain ⟨h3, h4⟩ := and2 h3
      obtain ⟨kk, p, rfl⟩ := vTup_ok hv
      have r1 := (soundH F hz hf hk b h3).1
      have r2 := (soundH F hz hf hk b' h4).1
      have r : PE (X.suite a ((a, oe) :: pn)) (.Tuple [e1, e2] kk p) (tHx G n a cls d x (.tup2 b b')) := by
        refine PEwk (pe_tup (pa_cons r1 (pa_cons r2 pa_nil (star_cons h2)) (star_cons h1))) fun σ H Q ⟨τ, hτ, S, en, v, hs, ev, q⟩ => ?_
        simp only [evH] at ev
        split at ev
        · rename_i d1 d2 hd1 hd2
          cases ev
          refine ⟨τ, hτ, S, en, d1, hs, hd1, fun y1 S1 H1 g1 p1 => ?_⟩
          refine ⟨τ, hτ, S1, en, d2, hs.grow F g1, hd2, fun y2 S2 H2 g2 p2 => ?_⟩
          refine ⟨by rw [sizeLine_eq]; simp, fun ad had => ?_⟩
          obtain ⟨S3, g3, r3⟩ := (g1.trans g2).tup had (.cons (p1.mono g2.sub) (.cons p2 .nil))
          exact q _ S3 _ g3 r3
        · cases ev
      exact ⟨r, ht_of r rfl⟩
    · cases h
  | .veq i k2, e, h => by
    simp only [chkH] at h
    split at h
    · rename_i l op r hv
      obtain ⟨h1, u1⟩ := and2 h
      obtain ⟨h2, h3⟩ := and2 u1
      obtain ⟨p, rfl⟩ := vCmp_ok hv
      obtain rfl := cpOf_ok (of_decide_eq_true h1)
      clear u1 h
      split at h3
      · rename_i j hj
        obtain rfl := of_decide_eq_true h3
        obtain ⟨kk, p2, rfl⟩ := vConst_ok hj
        obtain ⟨y, q, rfl, _⟩ := name_ok h2
        have rd : ∀ σ τ H (Q : VK) {S : Hp} {en : En} {v : D}, base G τ = σ → Hs G n a cls d x S H τ en → evH x en (.veq i j) = some v → (∀ y S' H', Grow G.K S H τ en S' H' τ en → Rp G.K S' y v → Q y H') → tOp (rC (X.suite a ((a, oe) :: pn)).K .eq) (tVar i) (tC (.int j)) σ H Q := fun σ τ H Q S en v hτ hs ev q => by
          simp only [evH] at ev
          split at ev
          · rename_i z hz2
            cases ev
            obtain ⟨w, hw, rw'⟩ := hs.rel.val i _ hz2
            cases rw'
            refine ⟨_, at_base hτ (F.ghB (name_gh h2)) hw, ?_⟩
            refine ⟨S, .int z, .int j, decide (z = j), hs.rel.sub, .inl (.int z), .inl (.int j), ?_, q _ S H hs.rel.grow (.bl _)⟩
            simp [cmpD, eqD, okD, SeqAt.shaped, PyData.canLay0, PyData.depth, PyData.eqv]; rfl
          · cases ev
        have r : PE (X.suite a ((a, oe) :: pn)) (.Compare (.Name y q) [cpA .eq] [.Constant (.int j) kk p2] p) (tHx G n a cls d x (.veq i j)) :=
          PEwk (pe_cmpR (X := X.suite a ((a, oe) :: pn)) (cmpR (by exact F.un) .eq) (s_name F h2) pe_int (by rfl)) fun σ H Q ⟨τ, hτ, S, en, v, hs, ev, q⟩ => rd σ τ H Q hτ hs ev q
        have rt : PT (X.suite a ((a, oe) :: pn)) (.Compare (.Name y q) [cpA .eq] [.Constant (.int j) kk p2] p) (tHt G n a cls d x (.veq i j)) :=
          PTwk (pt_cmpR (X := X.suite a ((a, oe) :: pn)) (cmpR (by exact F.un) .eq) (s_name F h2) pe_int (by rfl)) fun σ H Q ⟨τ, hτ, S, en, v, hs, ev, q⟩ => rd σ τ H _ hτ hs ev fun y S' H' g p => by cases p; exact ⟨v, rfl, q S' H' g⟩
        exact ⟨r, rt⟩
      · cases h3
    · cases h
  | .me, e, h => by simp [chkH] at h
  | .cat s f, e, h => by
    simp only [chkH] at h
    split at h
    · rename_i l op r hv
      obtain ⟨h1, u1⟩ := and2 h
      obtain ⟨h2, h3⟩ := and2 u1
      obtain ⟨p, rfl⟩ := vBin_ok hv
      obtain rfl := opOf_ok (of_decide_eq_true h1)
      clear u1 h
      split at h2
      · rename_i z hz2
        obtain rfl := of_decide_eq_true h2
        obtain ⟨kk, p2, rfl⟩ := vConst_ok hz2
        split at h3
        · rename_i fn y p3 hv3
          obtain ⟨h4, u4⟩ := and2 h3
          obtain ⟨h5, h6⟩ := and2 u4
          obtain rfl := vCall_ok hv3
          obtain ⟨p4, rfl, hg, _⟩ := named_ok F h4
          obtain ⟨ry, _⟩ := sound_fld F hz hf hk f h6
          have r : PE (X.suite a ((a, oe) :: pn)) (.BinOp (.Constant (.str z) kk p2) (opA .add) (.Call (.Name "repr" p4) [y] [] p3) p) (tHx G n a cls d x (.cat z f)) := by
            refine PEwk (pe_op op_add_str pe_str (pe_callB (X := X.suite a ((a, oe) :: pn)) SkE.call_repr_int hg (F.blt _ (by decide)) (by decide +kernel) (pa_cons ry pa_nil (star_cons h5)) (by decide) (by decide) (star_cons h5) rfl)) fun σ H Q ⟨τ, hτ, S, en, v, hs, ev, q⟩ => ?_
            simp only [evH] at ev
            split at ev
            · rename_i j hj
              split at ev
              · rename_i hlt
                cases ev
                refine ⟨τ, hτ, S, en, .int j, hs, (by simpa only [evH] using hj), fun y' S' H' g p' => ?_⟩
                cases p'
                exact ⟨j, rfl, hlt.1, z, _, rfl, rfl, hlt.2, q _ S' H' g (.str _)⟩
              · cases ev
            · cases ev
          exact ⟨r, ht_of r rfl⟩
        · cases h3
      · cases h2
    · cases h
def vTry : Stmt → Option (List Stmt × List ExceptHandler)
  | .Try b hs [] [] _ => some (b, hs)
  | _ => none
theorem vTry_ok {s : Stmt} {b : List Stmt} {hs : List ExceptHandler} (h : vTry s = some (b, hs)) : ∃ p, s = .Try b hs [] [] p := by
  unfold vTry at h
  split at h
  · cases h; exact ⟨_, rfl⟩
  · cases h
/-- except C as n: y = e -/
def vHd : ExceptHandler → Option (Str × Option Str × Expr × Expr)
  | .ExceptHandler (some (.Name x _)) nm [.Assign [t] v _] _ => some (x, nm, t, v)
  | _ => none
theorem vHd_ok {h : ExceptHandler} {x : Str} {nm : Option Str} {t v : Expr} (q : vHd h = some (x, nm, t, v)) : ∃ p p2 p3, h = .ExceptHandler (some (.Name x p)) nm [.Assign [t] v p2] p3 := by
  unfold vHd at q
  split at q
  · cases q; exact ⟨_, _, _, rfl⟩
  · cases q
def nmIs (c : Cc) : Option Nat → Option Str → Bool
  | none, none => true
  | some i, some y => decide (c.N[i]? = some y ∧ c.sc.names.lookup y = some .local ∧ i ∉ c.pr)
  | _, _ => false
def chkHd (c : Cc) (h : Hd) (eh : ExceptHandler) : Bool := match vHd eh with
  | some (x, nm, t, v) => (match c.xs.lookup x with
    | some xi => decide (xi.id = h.c)
    | none => false) && (glB c.sc x && (nmIs c h.n nm && (nmB c h.i t && (decide (h.i ∉ c.pr ∧ h.n ≠ some h.i) && (noComp v && (if isMe h.e = true then (match h.n with
    | some j => nameIs c j v
    | none => false) else chkH c h.c h.n h.e v))))))
  | none => false
def chkHds (c : Cc) : List Hd → List ExceptHandler → Bool
  | [], [] => true
  | h :: hs, e :: es => chkHd c h e && chkHds c hs es
  | _, _ => false
/-- what a clause's suite does -/
def tHd (G : Gx) (h : Hd) (x : Xn) (a : Addr) (cls : Value) (d : Option Addr) : TS := tAsg (if isMe h.e = true then tVar (h.n.getD 0) else tHx G h.n a cls d x h.e) (gName h.i)
theorem base_on {n : Option Nat} {a : Addr} {τ : L2.St} (h : ∀ i, n = some i → i ∉ G.gh.map (·.1)) : base G (onN n a τ) = onN n a (base G τ) := by
  cases n with
  | none => rfl
  | some i => exact base_set (h i rfl)
theorem cl_of (F : Fit X c G Φ) : ∀ (hs : List Hd) (es : List ExceptHandler), chkHds c hs es = true →
    ∃ l, ClOk X es l ∧ ∀ (D : Ends) (σ : L2.St) (H S : Hp) (en : En) (x : Xn) (cls : Value) (d : Option Addr), Rel G.K S H σ en → G.xr S H x cls d → PO G c.pr S H σ en D (hdGo x hs en) → wCl X.K G.W D l cls d (base G σ) H
  | [], [], _ => ⟨[], .nil, fun D σ H S en x cls d rel xr k => k cls d σ S H rel.grow.sg xr⟩
  | [], _ :: _, h => by cases h
  | _ :: _, [], h => by cases h
  | h :: hs, e :: es, hc => by
    simp only [chkHds] at hc
    obtain ⟨h1, h2⟩ := and2 hc
    obtain ⟨l, hl, k⟩ := cl_of F hs es h2
    unfold chkHd at h1
    split at h1
    · rename_i x nm t v hv
      obtain ⟨p, p2, p3, rfl⟩ := vHd_ok hv
      obtain ⟨a1, b1⟩ := and2 h1
      obtain ⟨a2, b2⟩ := and2 b1
      obtain ⟨a3, b3⟩ := and2 b2
      obtain ⟨a4, b4⟩ := and2 b3
      obtain ⟨a5, b5⟩ := and2 b4
      obtain ⟨a6, a7⟩ := and2 b5
      obtain ⟨i1, i2⟩ := of_decide_eq_true a5
      clear h1 b1 b2 b3 b4 b5
      split at a1
      · rename_i xi hxi
        have hid := of_decide_eq_true a1
        obtain ⟨C, E⟩ := F.xs.ent _ _ hxi
        obtain ⟨hg, hdb⟩ := glB_ok F a2
        have hn : NmOk X h.n nm := by
          unfold nmIs at a3
          split at a3
          · rename_i e1
            rw [e1]
            trivial
          · rename_i i y e1
            obtain ⟨z1, z2, _⟩ := of_decide_eq_true a3
            rw [e1]
            exact ⟨by rw [F.N]; exact z1, by show X.env.scope.names.lookup y = some .local; rw [F.sc]; exact z2⟩
          · cases a3
        have hnp : ∀ i, h.n = some i → i ∉ c.pr := fun i hi => by
          unfold nmIs at a3
          split at a3
          · rename_i e1; rw [e1] at hi; cases hi
          · rename_i i' y e1
            rw [e1] at hi; cases hi
            exact (of_decide_eq_true a3).2.2
          · cases a3
        have gp : GP G c.pr := fun q hq => F.gp q (by rw [← F.gh]; exact hq)
        have hng : ∀ i, h.n = some i → i ∉ G.gh.map (·.1) := fun i hi => (gp.out (hnp i hi)).1
        have hig := (gp.out i1).1
        refine ⟨(.ref C, h.n, isMe h.e, fun a cls d D σ H => ∃ x : Xn, subX x.c h.c = true ∧ tHd G h x a cls d D σ H) :: l, .cons ⟨hg, hdb, .inl E.gC⟩ hn (fun a oe cls d pn hz hf => pss_one ?_) hl, fun D σ H S en x cls d rel xr kk => ?_⟩
        · cases t <;> simp [nmB] at a4
          rename_i y py
          obtain ⟨n1, n2, n3, n4⟩ := a4
          refine ⟨fun pins s σ H D I ⟨x, hx, q⟩ => ?_⟩
          have pv : PE (X.suite a ((a, oe) :: pn)) v (if isMe h.e = true then tVar (h.n.getD 0) else tHx G h.n a cls d x h.e) := by
            by_cases hm : isMe h.e = true
            · rw [if_pos hm] at a7 ⊢
              split at a7
              · rename_i j hj
                rw [hj]
                exact s_name F a7
              · cases a7
            · rw [if_neg hm] at a7 ⊢
              exact (soundH F hz hf hx h.e a7).1
          exact (ps_set (X := X.suite a ((a, oe) :: pn)) (i := h.i) (by show X.N.Nodup; rw [F.N]; exact F.nd) (by show X.N[h.i]? = _; rw [F.N]; exact n1) (by show Loc X.env.scope y; rw [F.sc]; exact locB_ok n2) pv (noComp_sw a6)
            (by show X.fn y = true ∨ X.env.scope.names.lookup y = some .local; rw [F.sc]; exact F.loc y (locB_ok n2) (locB_ok n3))).run pins s σ H D I q
        · have hat : ∃ y yi C1, c.xs.lookup y = some yi ∧ yi.id = x.c ∧ X.mg y = some (.ref C1) ∧ cls = .ref C1 := by
            have q := xr
            rw [F.xr] at q
            obtain ⟨y, yi, C1, z1, z2, z3, z4, _⟩ := q
            exact ⟨y, yi, C1, z1, z2, z3, z4⟩
          obtain ⟨y, yi, C1, z1, z2, z3, rfl⟩ := hat
          have hex := exm_of E.t (F.xs.sub y yi _ xi z1 hxi C1 C z3 E.gC)
          rw [z2, hid] at hex
          simp only [hdGo] at kk
          refine ⟨subX x.c h.c, hex, fun hb a ha => ?_, fun hb => ?_⟩
          · rw [if_pos hb] at kk
            by_cases hok : okN h.n en = true
            · rw [if_pos hok] at kk
              by_cases hm : isMe h.e = true
              · rw [if_pos hm] at kk a7
                have kk : PO G c.pr S H σ en D (.nx ((offN h.n en).set h.i (.x x))) := kk
                split at a7
                · rename_i j hcn
                  have nij : h.i ≠ j := fun z => i2 (by rw [hcn, z])
                  have hjl : j < σ.length := by
                    unfold okN at hok
                    rw [hcn] at hok
                    rw [← rel.len]; exact of_decide_eq_true hok
                  rw [hm]
                  refine ⟨x, hb, ?_⟩
                  unfold tHd
                  rw [if_pos hm, hcn]
                  have g1 := rel.grow.laid (o := exK a (.ref C1) d) ha
                  have g2 := g1.setN (i := j) (x := some (.ref a))
                  have xa : XcAt S (upd H a (exK a (.ref C1) d)) a x := ⟨_, d, upd_same, by rw [F.xc]; rw [← F.xc] at xr ⊢; exact XrC.mono Sub.rfl' (fun b fs e => Sub.laid ha _ _ e) xr⟩
                  have g3 := (g2.setX (i := h.i) xa).setN (i := j) (x := none)
                  refine ⟨.ref a, List.getElem?_set_self (by rw [base_len]; exact hjl), ?_⟩
                  show D.nx ((((base G σ).set j (some (.ref a))).set h.i (some (.ref a))).set j none) (upd H a (exK a (.ref C1) d))
                  rw [← base_set (hng j hcn), ← base_set hig, ← base_set (hng j hcn)]
                  refine kk _ S _ (.of gp ?_ (fun k hk => ?_) ?_)
                  · rw [hcn]
                    have e1 : (((en.set j .no).set h.i (.x x)).set j .no) = (en.set j .no).set h.i (.x x) := by rw [List.set_comm _ _ nij, List.set_set]
                    rw [e1] at g3
                    exact g3
                  · have h1 : j ≠ k := fun z => hnp j hcn (by rw [z]; exact hk)
                    have h2 : h.i ≠ k := fun z => i1 (by rw [z]; exact hk)
                    rw [List.getElem?_set_ne h1, List.getElem?_set_ne h2, List.getElem?_set_ne h1]
                  · rw [List.length_set, List.length_set, List.length_set]
                · cases a7
              · rw [if_neg hm] at kk
                have hm : isMe h.e = false := by simpa using hm
                rw [hm]
                cases hev : evH x (offN h.n en) h.e with
                | none => rw [hev] at kk; exact kk.elim
                | some d' =>
                  rw [hev] at kk
                  have kk : PO G c.pr S H σ en D (.nx ((offN h.n en).set h.i (.v d'))) := kk
                  have gN : Grow G.K S H σ en S H (onN h.n a σ) (offN h.n en) := by
                    unfold onN offN
                    cases h.n with
                    | none => exact rel.grow
                    | some j => exact rel.grow.setN
                  refine ⟨x, hb, ?_⟩
                  unfold tHd
                  rw [if_neg (show ¬ isMe h.e = true from by rw [hm]; simp)]
                  refine ⟨onN h.n a σ, base_on hng, S, offN h.n en, d', ⟨gN.rel, xr, fun i hi => ⟨?_, hng i hi⟩⟩, hev, fun y' S' H' g p => ?_⟩
                  · rw [hi]
                    unfold okN at hok
                    rw [hi] at hok
                    have : i < σ.length := by rw [← rel.len]; exact of_decide_eq_true hok
                    exact List.getElem?_set_self this
                  · have g2 := (gN.trans g).setV (i := h.i) p
                    have fin : ∀ σ', Grow G.K S H σ en S' H' σ' ((offN h.n en).set h.i (.v d')) → (∀ k : Nat, k ∈ c.pr → σ'[k]? = σ[k]?) → σ'.length = σ.length → D.nx (base G σ') H' := fun σ' gg q1 q2 => kk σ' S' H' (.of gp gg q1 q2)
                    show (offD h.n D).nx ((onN h.n a (base G σ)).set h.i (some y')) H'
                    rw [← base_on hng, ← base_set hig]
                    cases hcn : h.n with
                    | none =>
                      rw [hcn] at g2
                      refine fin _ (by rw [hcn]; exact g2) (fun k hk => List.getElem?_set_ne fun z => i1 (by rw [z]; exact hk)) (List.length_set ..)
                    | some j =>
                      have nij : h.i ≠ j := fun z => i2 (by rw [hcn, z])
                      have g3 := g2.setN (i := j) (x := none)
                      rw [hcn] at g3
                      have e1 : (((offN (some j) en).set h.i (.v d')).set j .no) = (offN (some j) en).set h.i (.v d') := by
                        show (((en.set j .no).set h.i (.v d')).set j .no) = (en.set j .no).set h.i (.v d')
                        rw [List.set_comm _ _ nij, List.set_set]
                      rw [e1] at g3
                      show D.nx ((base G ((onN (some j) a σ).set h.i (some y'))).set j none) H'
                      rw [← base_set (hng j hcn)]
                      refine fin _ (by rw [hcn]; exact g3) (fun k hk => ?_) ?_
                      · have h1 : j ≠ k := fun z => hnp j hcn (by rw [z]; exact hk)
                        have h2 : h.i ≠ k := fun z => i1 (by rw [z]; exact hk)
                        show (((σ.set j _).set h.i _).set j none)[k]? = _
                        rw [List.getElem?_set_ne h1, List.getElem?_set_ne h2, List.getElem?_set_ne h1]
                      · show (((σ.set j _).set h.i _).set j none).length = _
                        rw [List.length_set, List.length_set, List.length_set]
            · rw [if_neg hok] at kk; exact kk.elim
          · rw [hb] at kk
            exact k D σ H S en x _ d rel xr kk
      · cases a1
    · cases h1
noncomputable def semTry (f : En → O) (hs : List Hd) (e : En) : O := match f e with
  | .ex x e1 => hdGo x hs e1
  | o => o
theorem r_try (F : Fit X c G Φ) (htop : c.top = true) {f : En → O} {hs : List Hd} {es : List ExceptHandler} {body : List Stmt} {pos : Pos} (hne : es ≠ []) (hc : chkHds c hs es = true)
    (hb : ∀ (W : WX) (pn : List (Addr × Obj)) (xe : Value → Shared → Prop), Takes (X.tr pn xe) W → PassesOwn (model X.prog X.w) X.A X.env xe → PSs (X.tr pn xe) body (tS { G with W := W } c.pr f)) :
    PS X (.Try body es [] [] pos) (tS G c.pr (semTry f hs)) := by
  obtain ⟨l, hl, k⟩ := cl_of F hs es hc
  obtain ⟨t1, t2⟩ := F.top htop
  cases es with
  | nil => exact absurd rfl hne
  | cons h₀ hds =>
    refine PSwk (ps_clauses (tb := fun W => tS { G with W := W } c.pr f) t1 t2 (by rw [F.N]; exact F.nd) F.tk hb hl) fun D σ H ⟨τ, hτ, S, e, rel, lnk, q⟩ => ⟨τ, hτ, S, e, rel, lnk, ?_⟩
    unfold semTry at q
    have cg : ∀ {S' H' : Hp} {σ' : L2.St} {e' : En}, SG { G with W := wCl X.K G.W D l } c.pr S H τ e S' H' σ' e' → SG G c.pr S H τ e S' H' σ' e' := fun g => ⟨g.g, g.pr, g.len, g.lk⟩
    cases hf : f e with
    | st => rw [hf] at q; exact q
    | nx e1 => rw [hf] at q; exact fun σ' S' H' g => q σ' S' H' (cg g)
    | rt r e1 => rw [hf] at q; exact fun x σ' S' H' g => q x σ' S' H' (cg g)
    | bk e1 => rw [hf] at q; exact fun σ' S' H' g => q σ' S' H' (cg g)
    | ct e1 => rw [hf] at q; exact fun σ' S' H' g => q σ' S' H' (cg g)
    | ex x e1 =>
      rw [hf] at q
      have q : PO G c.pr S H τ e D (hdGo x hs e1) := q
      intro cls d σ' S' H' g xr
      exact k D σ' H' S' e1 x cls d g.g.rel xr (PO.step (G := G) (cg g) q)
theorem Fit.tr (F : Fit X c G Φ) (W : WX) (pn : List (Addr × Obj)) (xe : Value → Shared → Prop) (tk : Takes (X.tr pn xe) W) (po : PassesOwn (model X.prog X.w) X.A X.env xe) : Fit (X.tr pn xe) c { G with W := W } Φ :=
  ⟨F.sc, F.N, F.nd, F.K, F.calm, tk, F.un, F.gd, F.blt, F.con, F.fn, F.loc, po, F.xs, F.xr, F.rm, F.top, F.xc, F.gm, F.gh, F.gp, F.nw, F.fl, F.ci, F.fq⟩
end
end Vc
end
section
set_option Elab.async false
set_option linter.all false
namespace Vc
open PySem PySem.Spec PyProof.Rows L2
variable [XrC]
/-- C() -/
def tNew (C : Addr) (f1 f2 : Str) : TE := fun σ H Q => ∀ x p1 p2 H2, NewAt H C f1 f2 x p1 p2 H2 → Q (.ref x) H2
section
variable {X : Cx} {c : Cc} {G : Gx} {Φ : Ph} {a b o : Expr} {es : List Expr} {pos : Pos}
theorem pe_newQ (F : Fit X c G Φ) {cn : Str} {fs : List Str} {p q : Pos} (hc : c.ci.lookup cn = some fs) (hg : Gl X cn) (hdb : (cn == ("__debug__" : Str)) = false) :
    ∃ C f1 f2, fs = [f1, f2] ∧ G.mg cn = some (.ref C) ∧ PE X (.Call (.Name cn p) [] [] q) (tNew C f1 f2) := by
  obtain ⟨C, k, hr, cl⟩ := F.ci cn fs hc
  obtain ⟨f1, f2, e, run⟩ := cl.nw
  refine ⟨C, f1, f2, e, by rw [F.gm]; exact cl.at_, ⟨fun pins s σ H Q I h => ?_⟩⟩
  refine wpAny_Call_Name_kw (ld_glob I hg cl.at_ ?_ hdb)
  exact PySem.W.callWith_K0 I.kIn cl.kp (run X rfl rfl rfl rfl rfl hr pins s σ H Q I h)
end
section
variable {K : Fg} {S S' S0 H H' H0 : Hp} {σ σ0 : L2.St} {e e' e0 : En}
/-- a new list that no slot holds yet -/
structure Pend (S H : Hp) (σ : L2.St) (e : En) (H0 : Hp) (σ0 : L2.St) (e0 : En) (p : Addr) : Prop where
  at_ : H p = some (.lst [])
  no : S p = none
  ow : ¬ OwnAt σ e p
  new : H0 p = none ∨ OwnAt σ0 e0 p
theorem Pend.grow {σ' : L2.St} {p : Addr} (h : Pend S H σ e H0 σ0 e0 p) (g : Grow K S H σ e S' H' σ' e') : Pend S' H' σ' e' H0 σ0 e0 p := by
  refine ⟨g.keep _ _ h.at_ h.ow, g.free _ _ h.at_ h.ow h.no, fun w => ?_, h.new⟩
  rcases g.own _ w with z | z
  · exact h.ow z
  · rw [h.at_] at z; cases z
theorem new_lay (g : Grow K S0 H0 σ0 e0 S H σ e) {C : Addr} {f1 f2 : Str} {x p1 p2 : Addr} {H2 : Hp} (n : NewAt H C f1 f2 x p1 p2 H2) : ∃ S' dx, Grow K S0 H0 σ0 e0 S' H2 σ e ∧ Grow K S H σ e S' H2 σ e ∧ S' x = some (.ins C dx [(f1, .ref p1), (f2, .ref p2)]) ∧
    Pend S' H2 σ e H0 σ0 e0 p1 ∧ Pend S' H2 σ e H0 σ0 e0 p2 ∧ p1 ≠ p2 := by
  obtain ⟨dx, h1, h2, h3, h4, h5, h6, h7, h8⟩ := n
  have ne1 : p1 ≠ x := fun z => by subst z; rw [h5] at h6; cases h6
  have ne2 : p2 ≠ x := fun z => by subst z; rw [h5] at h7; cases h7
  have sub : Sub S (upd S x (.ins C dx [(f1, .ref p1), (f2, .ref p2)])) := Sub.laid (g.rel.sub.non h1)
  have s2 : Sub (upd S x (.ins C dx [(f1, .ref p1), (f2, .ref p2)])) H2 := fun a o ha => by
    by_cases z : a = x
    · subst z; rw [upd_same] at ha; cases ha; exact h5
    · rw [upd_ne z] at ha; exact h8 a o (g.rel.sub a o ha)
  have st := still g.rel sub s2 h8 fun a o ha hb => by
    by_cases z : a = x
    · subst z; exact h1
    · rw [upd_ne z, hb] at ha; cases ha
  refine ⟨_, dx, g.trans st, st, upd_same, ⟨h6, by rw [upd_ne ne1]; exact g.rel.sub.non h2, g.rel.not_own h2, g.new h2⟩, ⟨h7, by rw [upd_ne ne2]; exact g.rel.sub.non h3, g.rel.not_own h3, g.new h3⟩, h4⟩
theorem own_set {i : Nat} {v : V} {ds : List D} {p : Addr} (h : ¬ OwnAt σ e p) (n : v ≠ .ref p) : ¬ OwnAt (σ.set i (some v)) (e.set i (.o ds)) p := fun ⟨j, es, h1, h2⟩ => by
  rcases get_set h1 with ⟨z, _, l⟩ | ⟨ne, h1⟩
  · subst z
    by_cases hl : i < σ.length
    · rw [List.getElem?_set_self hl] at h2; cases h2; exact n rfl
    · rw [List.getElem?_eq_none (by rw [List.length_set]; omega)] at h2; cases h2
  · rw [List.getElem?_set_ne ne] at h2
    exact h ⟨j, es, h1, h2⟩
theorem own_setN {i : Nat} {v : Option V} {p : Addr} (h : ¬ OwnAt σ e p) : ¬ OwnAt (σ.set i v) (e.set i .no) p := fun ⟨j, es, h1, h2⟩ => by
  rcases get_set h1 with ⟨_, z, _⟩ | ⟨ne, h1⟩
  · cases z
  · rw [List.getElem?_set_ne ne] at h2
    exact h ⟨j, es, h1, h2⟩
def setsQ (τ : L2.St) (i g1 g2 : Nat) (x p1 p2 : Addr) : L2.St := ((τ.set i (some (.ref x))).set g1 (some (.ref p1))).set g2 (some (.ref p2))
/-- the object and its lists come to their slots -/
theorem new_put (g : Grow K S0 H0 σ0 e0 S H σ e) {i g1 g2 : Nat} {x p1 p2 : Addr} (h1 : Pend S H σ e H0 σ0 e0 p1) (h2 : Pend S H σ e H0 σ0 e0 p2) (ne : p1 ≠ p2) :
    Grow K S0 H0 σ0 e0 S H (setsQ σ i g1 g2 x p1 p2) (setOs [g1, g2] (e.set i .no)) ∧ ∀ p, Pend S H σ e H0 σ0 e0 p → p ≠ p1 → p ≠ p2 → Pend S H (setsQ σ i g1 g2 x p1 p2) (setOs [g1, g2] (e.set i .no)) H0 σ0 e0 p := by
  have w1 := g.setN (i := i) (x := some (.ref x))
  have w2 := w1.setO (i := g1) (x := .ref p1) (ds := []) ⟨p1, [], rfl, h1.at_, h1.no, .nil, own_setN h1.ow⟩ (fun a ha => by cases ha; exact h1.new)
  have o2 : ¬ OwnAt ((σ.set i (some (.ref x))).set g1 (some (.ref p1))) ((e.set i .no).set g1 (.o [])) p2 := own_set (own_setN h2.ow) fun z => ne (by cases z; rfl)
  have w3 := w2.setO (i := g2) (x := .ref p2) (ds := []) ⟨p2, [], rfl, h2.at_, h2.no, .nil, o2⟩ (fun a ha => by cases ha; exact h2.new)
  exact ⟨w3, fun p h n1 n2 => ⟨h.at_, h.no, own_set (own_set (own_setN h.ow) fun z => n1 (by injection z with z; exact z.symm)) fun z => n2 (by injection z with z; exact z.symm), h.new⟩⟩
end
/-- what the check asks of a new object's slots -/
def newB (c : Cc) (i : Nat) (cn : Str) (gs : List Nat) : Bool := match gs, c.ci.lookup cn with
  | [g1, g2], some [f1, f2] => decide (f1 ≠ f2 ∧ g1 ≠ g2 ∧ i ≠ g1 ∧ i ≠ g2 ∧ i ∈ c.nw ∧ g1 ∈ c.nw ∧ g2 ∈ c.nw ∧ (g1, i, f1, cn) ∈ c.gh ∧ (g2, i, f2, cn) ∈ c.gh) && c.gh.all fun q =>
      decide (q.1 = g1 → q = (g1, i, f1, cn)) && (decide (q.1 = g2 → q = (g2, i, f2, cn)) && decide ((q.2.1 = i → q.1 = g1 ∨ q.1 = g2) ∧ q.1 ≠ i ∧ q.2.1 ≠ g1 ∧ q.2.1 ≠ g2))
  | _, _ => false
structure NewB (c : Cc) (i : Nat) (cn : Str) (g1 g2 : Nat) (f1 f2 : Str) : Prop where
  ci : c.ci.lookup cn = some [f1, f2]
  nf : f1 ≠ f2
  ng : g1 ≠ g2
  n1 : i ≠ g1
  n2 : i ≠ g2
  wi : i ∈ c.nw
  w1 : g1 ∈ c.nw
  w2 : g2 ∈ c.nw
  m1 : (g1, i, f1, cn) ∈ c.gh
  m2 : (g2, i, f2, cn) ∈ c.gh
  al : ∀ q ∈ c.gh, (q.1 = g1 → q = (g1, i, f1, cn)) ∧ (q.1 = g2 → q = (g2, i, f2, cn)) ∧ (q.2.1 = i → q.1 = g1 ∨ q.1 = g2) ∧ q.1 ≠ i ∧ q.2.1 ≠ g1 ∧ q.2.1 ≠ g2
theorem newB_ok {c : Cc} {i : Nat} {cn : Str} {gs : List Nat} (h : newB c i cn gs = true) : ∃ g1 g2 f1 f2, gs = [g1, g2] ∧ NewB c i cn g1 g2 f1 f2 := by
  unfold newB at h
  split at h
  · rename_i g1 g2 f1 f2 hc
    obtain ⟨h1, h2⟩ := Bool.and_eq_true_iff.mp h
    obtain ⟨a1, a2, a3, a4, a5, a6, a7, a8, a9⟩ := of_decide_eq_true h1
    refine ⟨g1, g2, f1, f2, rfl, hc, a1, a2, a3, a4, a5, a6, a7, a8, a9, fun q hq => ?_⟩
    obtain ⟨b1, b2⟩ := Bool.and_eq_true_iff.mp (List.all_eq_true.mp h2 q hq)
    obtain ⟨b2, b3⟩ := Bool.and_eq_true_iff.mp b2
    exact ⟨of_decide_eq_true b1, of_decide_eq_true b2, of_decide_eq_true b3⟩
  · cases h
section
variable {X : Cx} {c : Cc} {G : Gx} {Φ : Ph} {a b o : Expr} {es : List Expr} {pos : Pos}
theorem wipG_in {x : Option V} : ∀ {g : List (Nat × Nat × Str × Str)} {τ : L2.St} {i : Nat}, i ∈ g.map (·.1) → wipG g (τ.set i x) = wipG g τ
  | [], _, _, h => by simp at h
  | q :: r, τ, i, h => by
    rw [wipG, wipG]
    by_cases hr : i ∈ r.map (·.1)
    · rw [wipG_in hr]
    · have hq : i = q.1 := by
        rw [List.map_cons, List.mem_cons] at h
        exact h.resolve_right hr
      rw [wipG_set hr, hq, List.set_set]
theorem new_base (B : NewB c i cn g1 g2 f1 f2) (hgh : G.gh = c.gh) {τ : L2.St} {x p1 p2 : Addr} : base G (setsQ τ i g1 g2 x p1 p2) = (base G τ).set i (some (.ref x)) := by
  unfold setsQ base
  rw [hgh, wipG_in (List.mem_map.mpr ⟨_, B.m2, rfl⟩), wipG_in (List.mem_map.mpr ⟨_, B.m1, rfl⟩), wipG_set]
  intro h
  obtain ⟨q, hq, e⟩ := List.mem_map.mp h
  exact (B.al q hq).2.2.2.1 e
theorem new_lk (B : NewB c i cn g1 g2 f1 f2) (F : Fit X c G Φ) {τ : L2.St} {S : Hp} {x p1 p2 C dx : Addr} (hC : G.mg cn = some (.ref C)) (hS : S x = some (.ins C dx [(f1, .ref p1), (f2, .ref p2)])) (l0 : i < τ.length) (l : Lk G τ S) : Lk G (setsQ τ i g1 g2 x p1 p2) S := by
  intro q hq v hv
  have hq' : q ∈ c.gh := by rw [← F.gh]; exact hq
  obtain ⟨b1, b2, b3, b4, b5, b6⟩ := B.al q hq'
  have hfl : G.fl cn = [f1, f2] := by rw [F.fl]; unfold Cc.fl; rw [B.ci]; rfl
  have hi : (setsQ τ i g1 g2 x p1 p2)[i]? = some (some (.ref x)) := by
    unfold setsQ
    rw [List.getElem?_set_ne B.n2.symm, List.getElem?_set_ne B.n1.symm, List.getElem?_set_self l0]
  by_cases h2 : q.1 = g2
  · have e := b2 h2
    subst e
    have hv : v = .ref p2 := by
      unfold setsQ at hv
      rcases Nat.lt_or_ge g2 τ.length with z | z
      · rw [List.getElem?_set_self (by simpa using z)] at hv; cases hv; rfl
      · rw [List.getElem?_eq_none (by simpa using z)] at hv; cases hv
    subst hv
    exact ⟨x, C, dx, _, hC, hi, hS, by simp [List.lookup, B.nf.symm, beq_eq_false_iff_ne.mpr B.nf.symm], by rw [hfl]; rfl⟩
  · by_cases h1 : q.1 = g1
    · have e := b1 h1
      subst e
      have hv : v = .ref p1 := by
        unfold setsQ at hv
        rw [List.getElem?_set_ne (Ne.symm h2)] at hv
        rcases Nat.lt_or_ge g1 τ.length with z | z
        · rw [List.getElem?_set_self (by simpa using z)] at hv; cases hv; rfl
        · rw [List.getElem?_eq_none (by simpa using z)] at hv; cases hv
      subst hv
      exact ⟨x, C, dx, _, hC, hi, hS, by simp [List.lookup], by rw [hfl]; rfl⟩
    · have no : q.2.1 ≠ i := fun z => (b3 z).elim h1 h2
      unfold setsQ at hv
      rw [List.getElem?_set_ne (Ne.symm h2), List.getElem?_set_ne (Ne.symm h1), List.getElem?_set_ne (Ne.symm b4)] at hv
      obtain ⟨p, C', dx', fs, k1, k2, k3⟩ := l q hq v hv
      refine ⟨p, C', dx', fs, k1, ?_, k3⟩
      unfold setsQ
      rw [List.getElem?_set_ne (Ne.symm b6), List.getElem?_set_ne (Ne.symm b5), List.getElem?_set_ne (Ne.symm no)]
      exact k2
theorem setsQ_len {τ : L2.St} {i g1 g2 : Nat} {x p1 p2 : Addr} : (setsQ τ i g1 g2 x p1 p2).length = τ.length := by unfold setsQ; simp
theorem setsQ_out {τ : L2.St} {i g1 g2 k : Nat} {x p1 p2 : Addr} (h : k ≠ i) (h1 : k ≠ g1) (h2 : k ≠ g2) : (setsQ τ i g1 g2 x p1 p2)[k]? = τ[k]? := by
  unfold setsQ
  rw [List.getElem?_set_ne (Ne.symm h2), List.getElem?_set_ne (Ne.symm h1), List.getElem?_set_ne (Ne.symm h)]
theorem newOk_lt {e : En} {i : Nat} {gs : List Nat} (h : newOk e i gs = true) : i < e.length := of_decide_eq_true (Bool.and_eq_true_iff.mp h).1
theorem setOs_len : ∀ {gs : List Nat} {e : En}, (setOs gs e).length = e.length
  | [], _ => rfl
  | _ :: r, e => by rw [setOs, setOs_len (gs := r), List.length_set]
def nmQ (c : Cc) (i : Nat) : Expr → Bool
  | .Name x _ => c.N[i]? == some x && (locB c.sc x && locB c.os x)
  | _ => false
/-- x = C() -/
theorem r_newQ (F : Fit X c G Φ) {i : Nat} {cn : Str} {gs : List Nat} {t : Expr} {p q : Pos} (hb : newB c i cn gs = true) (hg : Gl X cn) (hdb : (cn == ("__debug__" : Str)) = false) (ht : nmQ c i t = true) :
    PS X (.Assign [t] (.Call (.Name cn p) [] [] q) pos) (tS G pr fun e => if newOk e i gs = true then .nx (setOs gs (e.set i .no)) else .st) := by
  obtain ⟨g1, g2, f1, f2, rfl, B⟩ := newB_ok hb
  obtain ⟨C, f1', f2', ef, hC, pe⟩ := pe_newQ (p := p) (q := q) F B.ci hg hdb
  cases ef
  cases t <;> simp [nmQ] at ht
  rename_i y py
  obtain ⟨n1, n2, n3⟩ := ht
  refine PSwk (ps_set (i := i) (by rw [F.N]; exact F.nd) (by rw [F.N]; exact n1) (by rw [F.sc]; exact locB_ok n2) pe rfl (by rw [F.sc]; exact F.loc y (locB_ok n2) (locB_ok n3))) fun D σ H ⟨τ, hτ, S, e, rel, lnk, k⟩ => ?_
  dsimp only at k
  split at k
  · rename_i hl
    intro x p1 p2 H2 na
    obtain ⟨S', dx, w, _, w2, w3, w4, w5⟩ := new_lay rel.grow na
    obtain ⟨w6, _⟩ := new_put (i := i) (g1 := g1) (g2 := g2) (x := x) w w3 w4 w5
    have li : i < τ.length := by rw [← rel.len]; exact newOk_lt hl
    have := k (setsQ τ i g1 g2 x p1 p2) S' H2 ⟨w6, fun j _ hj => setsQ_out (fun z => hj (by rw [z, F.nw]; exact B.wi)) (fun z => hj (by rw [z, F.nw]; exact B.w1)) (fun z => hj (by rw [z, F.nw]; exact B.w2)), setsQ_len, fun l => new_lk B F hC w2 li (l.mono w.sub)⟩
    rw [new_base B F.gh, hτ] at this
    exact this
  · exact k.elim
noncomputable def semNewE (i : Nat) (gs : List Nat) (j : Nat) (own : Bool) (f : En → R) (e : En) : O := (f e).bo fun r e1 => match put j own r e1 with
    | some e2 => if newOk e2 i gs = true then .nx (setOs gs (e2.set i .no)) else .st
    | none => .st
/-- x, y = C(), b -/
theorem r_newE (F : Fit X c G Φ) {i j : Nat} {own : Bool} {cn x y : Str} {gs : List Nat} {f : En → R} {px py pt pt2 p q : Pos} {kt k2 : Nat} (hb : newB c i cn gs = true) (hg : Gl X cn) (hdb : (cn == ("__debug__" : Str)) = false) (h : swapOk c x y px py (.Call (.Name cn p) [] [] q) b = true)
    (hx : c.N[i]? = some x) (hy : c.N[j]? = some y) (hj : j ∉ c.pr) (hjn : j ∉ i :: gs) (ha : PE X b (tE G f)) : PS X (.Assign [.Tuple [.Name x px, .Name y py] kt pt] (.Tuple [.Call (.Name cn p) [] [] q, b] k2 pt2) pos) (tS G c.pr (semNewE i gs j own f)) := by
  obtain ⟨g1, g2, f1, f2, rfl, B⟩ := newB_ok hb
  obtain ⟨C, f1', f2', ef, hC, pe⟩ := pe_newQ (p := p) (q := q) F B.ci hg hdb
  cases ef
  have h0 := h
  simp only [swapOk, Bool.and_eq_true, beq_iff_eq, bne_iff_ne, ne_eq, Bool.not_eq_true'] at h
  obtain ⟨h1, h2, h3, h4, h5, h6, h7, h8, h9⟩ := h
  simp only [List.mem_cons, not_or, List.not_mem_nil, not_false_eq_true, and_true] at hjn
  obtain ⟨j0, j1, j2⟩ := hjn
  have gp : GP G c.pr := fun q hq => F.gp q (by rw [← F.gh]; exact hq)
  refine PSwk (ps_par (i := i) (j := j) F.calm (by rw [F.N]; exact F.nd) (by rw [F.N]; exact hx) (by rw [F.N]; exact hy) (Ne.symm j0) (by rw [F.sc]; exact h2) (by rw [F.sc]; exact h3) (pa_cons pe (pa_cons ha pa_nil (star_cons h7)) (star_cons h6)) (swap_eq F h0)) fun D σ H ⟨τ, hτ, S, e, rel, lnk, k⟩ => ?_
  intro xa p1 p2 H2 na
  obtain ⟨S1, dx, w, _, w2, w3, w4, w5⟩ := new_lay rel.grow na
  refine ⟨τ, hτ, S1, e, w.rel, lnk.mono w.sub, PR.bo2 w k fun r e1 v S2 H3 hr g2' p2' f2' k2 => ⟨.ref xa, v, rfl, ?_⟩⟩
  split at k2
  · rename_i e2 hp
    split at k2
    · rename_i hl
      obtain ⟨S3, g3, s3, _⟩ := put_ok g2' p2' f2' hp
      -- the new lists are there still
      have own3 : ∀ p, Pend S1 H2 τ e H τ e p → Pend S3 H3 (τ.set j (some v)) e2 H τ e p := fun p hpd => hpd.grow g3
      obtain ⟨w6, _⟩ := new_put (i := i) (g1 := g1) (g2 := g2) (x := xa) (w.trans g3) (own3 p1 w3) (own3 p2 w4) w5
      have li : i < (τ.set j (some v)).length := by rw [← (w.trans g3).rel.len]; exact newOk_lt hl
      have := k2 (setsQ (τ.set j (some v)) i g1 g2 xa p1 p2) S3 H3 ⟨w6, fun m hm hn => by
        rw [setsQ_out (fun z => hn (by rw [z, F.nw]; exact B.wi)) (fun z => hn (by rw [z, F.nw]; exact B.w1)) (fun z => hn (by rw [z, F.nw]; exact B.w2))]
        exact List.getElem?_set_ne fun z => hj (by rw [z]; exact hm), by rw [setsQ_len, List.length_set], fun l => new_lk B F hC (g3.sub _ _ w2) li (((l.mono w.sub).mono g3.sub).set (gp.out hj).1 (gp.out hj).2)⟩
      rw [new_base B F.gh, base_set (gp.out hj).1, hτ, set_comm' j0] at this
      exact this
    · exact k2.elim
  · exact k2.elim
/-- x, y = C(), C() -/
theorem r_newN (F : Fit X c G Φ) {i j : Nat} {cn cn1 x y : Str} {gs gs1 : List Nat} {px py pt pt2 p q p' q' : Pos} {kt k2 : Nat} (hb : newB c i cn gs = true) (hg : Gl X cn) (hdb : (cn == ("__debug__" : Str)) = false) (hb1 : newB c j cn1 gs1 = true) (hg1 : Gl X cn1) (hdb1 : (cn1 == ("__debug__" : Str)) = false)
    (h : swapOk c x y px py (.Call (.Name cn p) [] [] q) (.Call (.Name cn1 p') [] [] q') = true) (hx : c.N[i]? = some x) (hy : c.N[j]? = some y) (hij : i ≠ j) :
    PS X (.Assign [.Tuple [.Name x px, .Name y py] kt pt] (.Tuple [.Call (.Name cn p) [] [] q, .Call (.Name cn1 p') [] [] q'] k2 pt2) pos) (tS G pr fun e => if newOk e i gs && newOk e j gs1 then .nx (setOs gs1 ((setOs gs (e.set i .no)).set j .no)) else .st) := by
  obtain ⟨g1, g2, f1, f2, rfl, B⟩ := newB_ok hb
  obtain ⟨C, f1', f2', ef, hC, pe⟩ := pe_newQ (p := p) (q := q) F B.ci hg hdb
  cases ef
  obtain ⟨d1, d2, b1, b2, rfl, B1⟩ := newB_ok hb1
  obtain ⟨C1, b1', b2', ef, hC1, pe1⟩ := pe_newQ (p := p') (q := q') F B1.ci hg1 hdb1
  cases ef
  have h0 := h
  simp only [swapOk, Bool.and_eq_true, beq_iff_eq, bne_iff_ne, ne_eq, Bool.not_eq_true'] at h
  obtain ⟨h1, h2, h3, h4, h5, h6, h7, h8, h9⟩ := h
  refine PSwk (ps_par (i := i) (j := j) F.calm (by rw [F.N]; exact F.nd) (by rw [F.N]; exact hx) (by rw [F.N]; exact hy) hij (by rw [F.sc]; exact h2) (by rw [F.sc]; exact h3) (pa_cons pe (pa_cons pe1 pa_nil (star_cons h7)) (star_cons h6)) (swap_eq F h0)) fun D σ H ⟨τ, hτ, S, e, rel, lnk, k⟩ => ?_
  dsimp only at k
  split at k
  · rename_i hl
    obtain ⟨hl1, hl2⟩ := Bool.and_eq_true_iff.mp hl
    intro xa p1 p2 H2 na ya q1 q2 H3 nb
    obtain ⟨S1, dx, w, _, w2, w3, w4, w5⟩ := new_lay rel.grow na
    obtain ⟨S2, dy, v, vs, v2, v3, v4, v5⟩ := new_lay w nb
    have a1 := w3.grow vs
    have a2 := w4.grow vs
    have ne : ∀ p q, Pend S1 H2 τ e H τ e p → H2 q = none → q ≠ p := fun p q hp hq z => by subst z; rw [hp.at_] at hq; cases hq
    obtain ⟨_, _, nb2, nb3, _⟩ := nb
    obtain ⟨w6, w7⟩ := new_put (i := i) (g1 := g1) (g2 := g2) (x := xa) v a1 a2 w5
    obtain ⟨v6, _⟩ := new_put (i := j) (g1 := d1) (g2 := d2) (x := ya) w6 (w7 q1 v3 (ne p1 q1 w3 nb2) (ne p2 q1 w4 nb2)) (w7 q2 v4 (ne p1 q2 w3 nb3) (ne p2 q2 w4 nb3)) v5
    have li : i < τ.length := by rw [← rel.len]; exact newOk_lt hl1
    have lj : j < (setsQ τ i g1 g2 xa p1 p2).length := by rw [setsQ_len, ← rel.len]; exact newOk_lt hl2
    have := k (setsQ (setsQ τ i g1 g2 xa p1 p2) j d1 d2 ya q1 q2) S2 H3 ⟨v6, fun m _ hn => by
      rw [setsQ_out (fun z => hn (by rw [z, F.nw]; exact B1.wi)) (fun z => hn (by rw [z, F.nw]; exact B1.w1)) (fun z => hn (by rw [z, F.nw]; exact B1.w2)), setsQ_out (fun z => hn (by rw [z, F.nw]; exact B.wi)) (fun z => hn (by rw [z, F.nw]; exact B.w1)) (fun z => hn (by rw [z, F.nw]; exact B.w2))], by rw [setsQ_len, setsQ_len], fun l => new_lk B1 F hC1 v2 lj (new_lk B F hC (vs.sub _ _ w2) li (l.mono v.sub))⟩
    rw [new_base B1 F.gh, new_base B F.gh, hτ] at this
    exact ⟨_, _, rfl, this⟩
  · exact k.elim
end
end Vc
end
section
set_option Elab.async false
set_option linter.all false
set_option maxRecDepth 20000
namespace Vc
open PySem PySem.Spec PyProof.Rows L2
variable [XrC]
def isAS : Op2 → Bool
  | .add | .sub => true
  | _ => false
theorem isAS_ok {o : Op2} (h : isAS o = true) : o = .add ∨ o = .sub := by cases o <;> simp [isAS] at h <;> simp
def notPr (c : Cc) (is : List Nat) : Bool := is.all fun i => !(c.pr.contains i)
theorem notPr_ok {c : Cc} {is : List Nat} (h : notPr c is = true) : ∀ i ∈ is, i ∉ c.pr := fun i hi => by
  have := List.all_eq_true.mp h i hi
  simpa using this
def Cc.hold (c : Cc) (T : List Nat) : Cc := { c with pr := c.pr ++ T }
theorem Fit.gpr {X : Cx} {c : Cc} {G : Gx} {Φ : Ph} (F : Fit X c G Φ) : GP G c.pr := fun q hq => F.gp q (by rw [← F.gh]; exact hq)
theorem Fit.hold {X : Cx} {c : Cc} {G : Gx} {Φ : Ph} (F : Fit X c G Φ) (T : List Nat) : Fit X (c.hold T) G Φ := ⟨F.sc, F.N, F.nd, F.K, F.calm, F.tk, F.un, F.gd, F.blt, F.con, F.fn, F.loc, F.own, F.xs, F.xr, F.rm, F.top, F.xc, F.gm, F.gh, fun q hq => ⟨List.mem_append_left _ (F.gp q hq).1, List.mem_append_left _ (F.gp q hq).2⟩, F.nw, F.fl, F.ci, F.fq⟩
/-- a, b = x, y: the names, their rows, the parts -/
def vPar (t v : Expr) : Option (Str × Pos × Str × Pos × Expr × Expr) := match t, v with
  | .Tuple [.Name x px, .Name y py] _ _, .Tuple [a, b] _ _ => some (x, px, y, py, a, b)
  | _, _ => none
theorem vPar_ok {t v a b : Expr} {x y : Str} {px py : Pos} (h : vPar t v = some (x, px, y, py, a, b)) : ∃ k p k2 p2, t = .Tuple [.Name x px, .Name y py] k p ∧ v = .Tuple [a, b] k2 p2 := by
  unfold vPar at h
  split at h
  · cases h; exact ⟨_, _, _, _, rfl, rfl⟩
  · cases h
def vNameP : Expr → Option (Str × Pos)
  | .Name x p => some (x, p)
  | _ => none
theorem vNameP_ok {e : Expr} {x : Str} {p : Pos} (h : vNameP e = some (x, p)) : e = .Name x p := by
  unfold vNameP at h
  split at h
  · cases h; rfl
  · cases h
def vSw3 (ts : List (Nat × Bool)) (tes ves : List Expr) : Option (Str × Pos × Str × Pos × Str × Pos × Expr × Expr × Expr × Nat × Nat × Nat) := match ts, tes, ves with
  | [(i, _), (j, _), (l, _)], [.Name x px, .Name y py, .Name z pz], [a, b, d] => some (x, px, y, py, z, pz, a, b, d, i, j, l)
  | _, _, _ => none
theorem vSw3_ok {ts : List (Nat × Bool)} {tes ves : List Expr} {x y z : Str} {px py pz : Pos} {a b d : Expr} {i j l : Nat} (h : vSw3 ts tes ves = some (x, px, y, py, z, pz, a, b, d, i, j, l)) : (∃ oi oj ol, ts = [(i, oi), (j, oj), (l, ol)]) ∧ tes = [.Name x px, .Name y py, .Name z pz] ∧ ves = [a, b, d] := by
  unfold vSw3 at h
  split at h
  · cases h; exact ⟨⟨_, _, _, rfl⟩, rfl, rfl⟩
  · cases h
def vRaise : Stmt → Option (Str × Expr)
  | .Raise (some (.Call (.Name x _) [a] [] _)) none _ => some (x, a)
  | _ => none
theorem vRaise_ok {s : Stmt} {x : Str} {a : Expr} (h : vRaise s = some (x, a)) : ∃ p p2 p3, s = .Raise (some (.Call (.Name x p) [a] [] p2)) none p3 := by
  unfold vRaise at h
  split at h
  · cases h; exact ⟨_, _, _, rfl⟩
  · cases h
def strC (a : Expr) : Bool := match vConst a with
  | some (.str _) => true
  | _ => false
theorem strC_ok {a : Expr} (h : strC a = true) : ∃ m k p, a = .Constant (.str m) k p := by
  unfold strC at h
  split at h
  · rename_i m hv
    obtain ⟨k, p, rfl⟩ := vConst_ok hv
    exact ⟨m, k, p, rfl⟩
  · cases h
theorem ex_raise0 {Φ : Ph} {ms : Nat → List Md} {k : Nat} : exS Φ ms (.raise k .nil) = fun e => .ex ⟨k, none⟩ e := by
  funext e
  rw [exS, evL]
  rfl
theorem ex_raise1 {Φ : Ph} {ms : Nat → List Md} {k : Nat} {a : Ex} : exS Φ ms (.raise k (.cons a .nil)) = semRaise k (evE Φ ms a) := by
  funext e
  rw [exS, evL]
  unfold semRaise
  cases evE Φ ms a e with
  | st => rfl
  | ex x e1 => rfl
  | ok r e1 =>
    simp only [evL, RL.bo, R.bo, toVs]
    cases toV e1 r with
    | none => rfl
    | some p => rfl
theorem ex_try {Φ : Ph} {ms : Nat → List Md} {b : Sms} {hs : List Hd} : exS Φ ms (.try b hs) = semTry (exSs Φ ms b) hs := by
  funext e
  rw [exS]
  unfold semTry
  cases exSs Φ ms b e <;> rfl
mutual
def chkS : Sm → Cc → Stmt → Bool
  | .never, _, _ => true
  | .pass, _, s => isPassS s
  | .brk, _, s => isBrkS s
  | .cnt, _, s => isCntS s
  | .retN, _, s => match vRet s with
    | some none => true
    | _ => false
  | .ret a, c, s => match vRet s with
    | some (some e) => chkE a c e
    | _ => false
  | .ex a, c, s => match vExp s with
    | some e => noComp e && chkE a c e
    | none => false
  | .asg i _ a, c, s => match vAsg s with
    | some (t, v) => nmB c i t && (notPr c [i] && (chkE a c v && (noComp v || (match vNameP t, vLc v with
      | some (y, py), some (_, _, _, _, sc, lp) => fnKind c.sc.kind && decide (c.sc.names.lookup y = some .local → py.line = lp.line → (sc.names.any fun (n, k) => n == y && (k == .local || k == .cell)) = false)
      | _, _ => false))))
    | none => false
  | .par i _ j _ a b, c, s => match vAsg s with
    | some (t, v) => (match vPar t v with
      | some (x, px, y, py, ea, eb) => swapOk c x y px py ea eb && (decide (c.N[i]? = some x ∧ c.N[j]? = some y) && (notPr c [i, j] && (chkE a c ea && chkE b c eb)))
      | none => false)
    | none => false
  | .unp is a, c, s => match vAsg s with
    | some (t, v) => (match vTup t with
      | some es => unpOk v && (nmsB c is es && (notPr c is && chkE a c v))
      | none => false)
    | none => false
  | .six a k b, c, s => match vAsg s with
    | some (t, v) => (match vSub t with
      | some (x, y) => noComp v && (plainX y && (chkE a c x && (chkE k c y && chkE b c v)))
      | none => false)
    | none => false
  | .aug i o b, c, s => match vAug s with
    | some (t, op, v) => decide (opOf op = some o) && (isAS o && (nmB c i t && (notPr c [i] && chkE b c v)))
    | none => false
  | .augs a k o b, c, s => match vAug s with
    | some (t, op, v) => decide (opOf op = some o) && (isAS o && (match vSub t with
      | some (x, y) => plainX y && (chkE a c x && (chkE k c y && chkE b c v))
      | none => false))
    | none => false
  | .ite t a b, c, s => match vIfS s with
    | some (e, xs, ys) => chkE t c e && (chkSs a c xs && chkSs b c ys)
    | none => false
  | .whl t a, c, s => match vWhl s with
    | some (e, xs) => chkE t c e && chkSs a c xs
    | none => false
  | .for sr tg b, c, s => match vFor s with
    | some (t, i, xs) => (heldOk sr && (heldBy sr).all fun k => !(c.nw.contains k)) && (plainX i && (chkI sr c t i && (chkTg c tg t && (notPr (c.hold (heldBy sr)) (tgIx tg) && chkSs b (c.hold (heldBy sr)) xs))))
    | none => false
  | .raise k es, c, s => match vRaise s with
    | some (x, a) => glB c.sc x && (match es with
      | .nil => decide (c.xs.lookup x = some ⟨k, none⟩) && strC a
      | .cons e .nil => (match c.xs.lookup x with
        | some ⟨k', some _⟩ => decide (k' = k) && (plainX a && chkE e c a)
        | _ => false)
      | _ => false)
    | none => false
  | .try b hs, c, s => match vTry s with
    | some (body, es) => c.top && (!es.isEmpty && (chkHds c hs es && chkSs b c body))
    | none => false
  | .mas ts es, c, s => match vAsg s with
    | some (t, v) => (match vTup t, vTup v with
      | some tes, some ves => nmsB c (ts.map (·.1)) tes && (notPr c (ts.map (·.1)) && (decide (exsLen es < 1000) && (chkL es c ves && (rowOk c tes ves || (match vSw3 ts tes ves with
        | some (x, px, y, py, z, pz, ea, eb, ed, i, j, l) => swap3Ok c x y z px py pz ea eb ed && decide (c.N[i]? = some x ∧ c.N[j]? = some y ∧ c.N[l]? = some z)
        | none => false)))))
      | _, _ => false)
    | none => false
  | .newQ i cn gs, c, s => match vAsg s with
    | some (t, v) => (match vCall v with
      | some (fn, [], [], _) => named c fn cn && (nmQ c i t && newB c i cn gs)
      | _ => false)
    | none => false
  | .newE i cn gs j _ b, c, s => match vAsg s with
    | some (t, v) => (match vPar t v with
      | some (x, px, y, py, ea, eb) => (match vCall ea with
        | some (fn, [], [], _) => named c fn cn && (newB c i cn gs && (swapOk c x y px py ea eb && (decide (c.N[i]? = some x ∧ c.N[j]? = some y ∧ j ∉ i :: gs) && (notPr c [j] && chkE b c eb))))
        | _ => false)
      | none => false)
    | none => false
  | .newN i cn gs j cn1 gs1, c, s => match vAsg s with
    | some (t, v) => (match vPar t v with
      | some (x, px, y, py, ea, eb) => (match vCall ea, vCall eb with
        | some (fn, [], [], _), some (fn1, [], [], _) => named c fn cn && (named c fn1 cn1 && (newB c i cn gs && (newB c j cn1 gs1 && (swapOk c x y px py ea eb && decide (c.N[i]? = some x ∧ c.N[j]? = some y ∧ i ≠ j)))))
        | _, _ => false)
      | none => false)
    | none => false
def chkSs : Sms → Cc → List Stmt → Bool
  | .nil, _, ss => ss.isEmpty
  | .cons .never .nil, _, _ => true
  | .cons a r, c, ss => match ss with
    | s :: ss' => chkS a c s && chkSs r c ss'
    | [] => false
end
theorem chkQ_lc {w f : Nat} {es : Exs} {gs : List Nat} {c : Cc} {el : Expr} {gn : List Comprehension} {sc : Scope} {p : Pos} : chkE (.callQ w f es gs) c (.ListComp el gn sc p) = false := by
  cases es with
  | nil => simp [chkE]
  | cons a r =>
    simp only [chkE, vCall, vAttr, vCmp]
    rw [Bool.and_eq_false_iff]
    right
    split <;> rfl
theorem soundAsgLc {Φ : Ph} {X : Cx} {c : Cc} {G : Gx} (F : Fit X c G Φ) {i : Nat} {own : Bool} {a : Ex} {t v el t' it : Expr} {fs : List Expr} {sc : Scope} {lp py p : Pos} {y : Str} (hy : vNameP t = some (y, py)) (hl : vLc v = some (el, t', it, fs, sc, lp)) (hk : c.sc.kind = .function)
    (hd : c.sc.names.lookup y = some .local → py.line = lp.line → (sc.names.any fun (n, k) => n == y && (k == .local || k == .cell)) = false) (hn : nmB c i t = true) (hi : i ∉ c.pr) (hc : chkE a c v = true) (ha : PE X v (tE G (evE Φ c.md a))) :
    PS X (.Assign [t] v p) (tS G c.pr (exS Φ c.md (.asg i own a))) := by
  obtain rfl := vNameP_ok hy
  obtain rfl := vLc_ok hl
  simp only [nmB, Bool.and_eq_true, beq_iff_eq] at hn
  obtain ⟨n1, n2, n3, n4⟩ := hn
  by_cases hsw : swB c y py.line lp.line sc = true
  · -- the store comes within
    simp only [swB, Bool.and_eq_true, beq_iff_eq, Bool.not_eq_true'] at hsw
    obtain ⟨⟨⟨_, k2⟩, k3⟩, k4⟩ := hsw
    cases a <;> (try (rw [chkQ_lc] at hc; exact absurd hc (by decide))) <;> simp only [chkE, nameIs, vConst, vName, vBin, vUn, vCmp, vBop, vIf, vList, vTup, vSub, vCall, vLc2, vFmt, vJoin, vCallI, isDc0, vAttr, named] at hc <;> try (simp [isCNone] at hc; done)
    rename_i s tg own' ts elt
    simp only [vLc] at hc
    obtain ⟨h1, h2⟩ := and2 hc
    obtain ⟨h2, h3⟩ := and2 h2
    obtain ⟨h3, h4⟩ := and2 h3
    obtain ⟨h4, h5⟩ := and2 h4
    obtain ⟨h5, h6⟩ := and2 h5
    obtain ⟨h6, h7⟩ := and2 h6
    obtain ⟨h7, h8⟩ := and2 h7
    obtain ⟨h8, h9⟩ := and2 h8
    have r := s_setLc (spos := p) (py := py) (pos := lp) F (of_decide_eq_true h1).1 (of_decide_eq_true h1).2 (of_decide_eq_true h2) h3 h4 n1 k2 hk (by rw [k3]; simp) k4 (soundI s F h5) h6 (fun s' H C cl fp => soundTs ts (F.blk s' H sc C cl fp) (of_decide_eq_true h7) h8) (fun s' H C cl fp => (soundE elt (F.blk s' H sc C cl fp) h9).1)
    exact PSwk r fun D σ H q => asg_read F.gpr hi D σ H q
  · have hsw : swB c y py.line lp.line sc = false := by simpa using hsw
    refine PSwk (ps_set (i := i) (by rw [F.N]; exact F.nd) (by rw [F.N]; exact n1) (by rw [F.sc]; exact locB_ok n2) ha (by rw [sw_eq F hk, hsw]) (by rw [F.sc]; exact F.loc y (locB_ok n2) (locB_ok n3))) fun D σ H q => asg_read F.gpr hi D σ H q
section
variable {Φ : Ph}
mutual
theorem soundS : ∀ (x : Sm) {X : Cx} {c : Cc} {G : Gx} (F : Fit X c G Φ) {s : Stmt}, chkS x c s = true → PS X s (tS G c.pr (exS Φ c.md x))
  | .never, X, c, G, F, s, h => PSwk ps_never fun D σ H ⟨τ, hτ, S, e, rel, lnk, k⟩ => by rw [exS] at k; exact k
  | .pass, X, c, G, F, s, h => by
    simp only [chkS] at h
    cases s <;> simp [isPassS] at h
    exact r_pass
  | .brk, X, c, G, F, s, h => by
    simp only [chkS] at h
    cases s <;> simp [isBrkS] at h
    exact r_brk
  | .cnt, X, c, G, F, s, h => by
    simp only [chkS] at h
    cases s <;> simp [isCntS] at h
    exact r_cnt
  | .retN, X, c, G, F, s, h => by
    simp only [chkS] at h
    split at h
    · rename_i hv
      obtain ⟨p, rfl⟩ := vRet_ok hv
      exact r_retN
    · cases h
  | .ret a, X, c, G, F, s, h => by
    simp only [chkS] at h
    split at h
    · rename_i e hv
      obtain ⟨p, rfl⟩ := vRet_ok hv
      exact r_ret (soundE a F h).1
    · cases h
  | .ex a, X, c, G, F, s, h => by
    simp only [chkS] at h
    split at h
    · rename_i e hv
      obtain ⟨h1, h2⟩ := and2 h
      obtain ⟨p, rfl⟩ := vExp_ok hv
      exact r_ex h1 (soundE a F h2).1
    · cases h
  | .asg i own a, X, c, G, F, s, h => by
    simp only [chkS] at h
    split at h
    · rename_i t v hv
      obtain ⟨h1, h2⟩ := and2 h
      obtain ⟨h2, h3⟩ := and2 h2
      obtain ⟨h3, h4⟩ := and2 h3
      obtain ⟨p, rfl⟩ := vAsg_ok hv
      have hi : i ∉ c.pr := notPr_ok h2 i (by simp)
      rcases Bool.or_eq_true_iff.mp h4 with h4 | h4
      · exact r_asg F F.gpr h4 h1 hi (soundE a F h3).1
      · split at h4
        · rename_i y py el t' it fs sc lp hy hl
          obtain ⟨h4, h5⟩ := and2 h4
          exact soundAsgLc F hy hl (fnKind_ok h4) (of_decide_eq_true h5) h1 hi h3 (soundE a F h3).1
        · cases h4
    · cases h
  | .par i oi j oj a b, X, c, G, F, s, h => by
    simp only [chkS] at h
    split at h
    · rename_i t v hv
      split at h
      · rename_i x px y py ea eb hp
        obtain ⟨h1, h2⟩ := and2 h
        obtain ⟨h2, h3⟩ := and2 h2
        obtain ⟨h3, h4⟩ := and2 h3
        obtain ⟨h4, h5⟩ := and2 h4
        obtain ⟨p, rfl⟩ := vAsg_ok hv
        obtain ⟨k, q, k2, q2, rfl, rfl⟩ := vPar_ok hp
        obtain ⟨n1, n2⟩ := of_decide_eq_true h2
        exact r_par F F.gpr h1 n1 n2 (notPr_ok h3 i (by simp)) (notPr_ok h3 j (by simp)) (soundE a F h4).1 (soundE b F h5).1
      · cases h
    · cases h
  | .unp is a, X, c, G, F, s, h => by
    simp only [chkS] at h
    split at h
    · rename_i t v hv
      split at h
      · rename_i es hp
        obtain ⟨h1, h2⟩ := and2 h
        obtain ⟨h2, h3⟩ := and2 h2
        obtain ⟨h3, h4⟩ := and2 h3
        obtain ⟨p, rfl⟩ := vAsg_ok hv
        obtain ⟨k, q, rfl⟩ := vTup_ok hp
        exact r_unp F F.gpr h1 h2 (notPr_ok h3) (soundE a F h4).1
      · cases h
    · cases h
  | .six a k b, X, c, G, F, s, h => by
    simp only [chkS] at h
    split at h
    · rename_i t v hv
      split at h
      · rename_i x y hp
        obtain ⟨h1, h2⟩ := and2 h
        obtain ⟨h2, h3⟩ := and2 h2
        obtain ⟨h3, h4⟩ := and2 h3
        obtain ⟨h4, h5⟩ := and2 h4
        obtain ⟨p, rfl⟩ := vAsg_ok hv
        obtain ⟨q, rfl⟩ := vSub_ok hp
        exact r_six F.K h1 h2 (soundE a F h3).1 (soundE k F h4).1 (soundE b F h5).1
      · cases h
    · cases h
  | .aug i o b, X, c, G, F, s, h => by
    simp only [chkS] at h
    split at h
    · rename_i t op v hv
      obtain ⟨h1, h2⟩ := and2 h
      obtain ⟨h2, h3⟩ := and2 h2
      obtain ⟨h3, h4⟩ := and2 h3
      obtain ⟨h4, h5⟩ := and2 h4
      obtain ⟨p, rfl⟩ := vAug_ok hv
      obtain rfl := opOf_ok (of_decide_eq_true h1)
      exact r_aug F F.gpr o (isAS_ok h2) h3 (notPr_ok h4 i (by simp)) (soundE b F h5).1
    · cases h
  | .augs a k o b, X, c, G, F, s, h => by
    simp only [chkS] at h
    split at h
    · rename_i t op v hv
      obtain ⟨h1, h2⟩ := and2 h
      obtain ⟨has, h3⟩ := and2 h2
      split at h3
      · rename_i x y hp
        obtain ⟨h3, h4⟩ := and2 h3
        obtain ⟨h4, h5⟩ := and2 h4
        obtain ⟨h5, h6⟩ := and2 h5
        obtain ⟨p, rfl⟩ := vAug_ok hv
        obtain ⟨q, rfl⟩ := vSub_ok hp
        obtain rfl := opOf_ok (of_decide_eq_true h1)
        exact r_augs F.K o h3 (soundE a F h4).1 (soundE k F h5).1 (soundE b F h6).1 (isAS_ok has)
      · cases h3
    · cases h
  | .ite t a b, X, c, G, F, s, h => by
    simp only [chkS] at h
    split at h
    · rename_i e xs ys hv
      obtain ⟨h1, h2⟩ := and2 h
      obtain ⟨h2, h3⟩ := and2 h2
      obtain ⟨p, rfl⟩ := vIfS_ok hv
      exact r_ite (soundE t F h1).2 (soundSs a F h2) (soundSs b F h3)
    · cases h
  | .whl t a, X, c, G, F, s, h => by
    simp only [chkS] at h
    split at h
    · rename_i e xs hv
      obtain ⟨h1, h2⟩ := and2 h
      obtain ⟨p, rfl⟩ := vWhl_ok hv
      exact r_whl F (soundE t F h1).2 (soundSs a F h2)
    · cases h
  | .for sr tg b, X, c, G, F, s, h => by
    simp only [chkS] at h
    split at h
    · rename_i t i xs hv
      obtain ⟨h1, h2⟩ := and2 h
      obtain ⟨h2, h3⟩ := and2 h2
      obtain ⟨h3, h4⟩ := and2 h3
      obtain ⟨h4, h5⟩ := and2 h4
      obtain ⟨h5, h6⟩ := and2 h5
      obtain ⟨p, rfl⟩ := vFor_ok hv
      obtain ⟨h1, hn⟩ := and2 h1
      exact r_for F F.gpr (heldBy sr) (fun k hk => by
        rw [F.nw]
        simpa using List.all_eq_true.mp hn k hk) (held_ok h1) h2 (soundI sr F h3) h4 (notPr_ok h5) (soundSs b (F.hold (heldBy sr)) h6)
    · cases h
  | .raise k es, X, c, G, F, s, h => by
    simp only [chkS] at h
    split at h
    · rename_i x a hv
      obtain ⟨h1, h2⟩ := and2 h
      obtain ⟨p, p2, p3, rfl⟩ := vRaise_ok hv
      obtain ⟨hg, hdb⟩ := glB_ok F h1
      cases es with
      | nil =>
        obtain ⟨h3, h4⟩ := and2 h2
        obtain ⟨m, j, q, rfl⟩ := strC_ok h4
        rw [ex_raise0]
        exact r_raise0 F (of_decide_eq_true h3) hg hdb
      | cons e r =>
        cases r with
        | cons _ _ => cases h2
        | nil =>
          simp only at h2
          split at h2
          · rename_i k' f hl
            obtain ⟨h3, h4⟩ := and2 h2
            obtain ⟨h5, h6⟩ := and2 h4
            obtain rfl := of_decide_eq_true h3
            rw [ex_raise1]
            exact r_raise1 F hl hg hdb h5 (soundE e F h6).1
          · cases h2
    · cases h
  | .try b hs, X, c, G, F, s, h => by
    simp only [chkS] at h
    split at h
    · rename_i body es hv
      obtain ⟨h1, u1⟩ := and2 h
      obtain ⟨h2, u2⟩ := and2 u1
      obtain ⟨h3, h4⟩ := and2 u2
      obtain ⟨p, rfl⟩ := vTry_ok hv
      rw [ex_try]
      exact r_try F h1 (fun z => by rw [z] at h2; cases h2) h3 fun W pn xe tk po => soundSs b (F.tr W pn xe tk po) h4
    · cases h
  | .mas ts es, X, c, G, F, s, h => by
    simp only [chkS] at h
    split at h
    · rename_i t v hv
      split at h
      · rename_i tes ves ht hw
        obtain ⟨a1, b1⟩ := and2 h
        obtain ⟨a2, b2⟩ := and2 b1
        obtain ⟨a3, b3⟩ := and2 b2
        obtain ⟨a4, b4⟩ := and2 b3
        clear h b1 b2 b3
        obtain ⟨p, rfl⟩ := vAsg_ok hv
        obtain ⟨k, q, rfl⟩ := vTup_ok ht
        obtain ⟨k2, q2, rfl⟩ := vTup_ok hw
        have hlen : ∀ e rs e1, evL Φ c.md es e = .ok rs e1 → rs.length < 1000 := fun e rs e1 z => by
          rw [evL_len z]; exact of_decide_eq_true a3
        rcases Bool.or_eq_true_iff.mp b4 with b5 | b5
        · exact r_mas F F.gpr b5 a1 (notPr_ok a2) (soundL es F a4) hlen
        · split at b5
          · rename_i x px y py z pz ea eb ed i j l hs
            obtain ⟨c1, c2⟩ := and2 b5
            obtain ⟨⟨oi, oj, ol, rfl⟩, rfl, rfl⟩ := vSw3_ok hs
            obtain ⟨n1, n2, n3⟩ := of_decide_eq_true c2
            exact r_mas3 F F.gpr c1 n1 n2 n3 (notPr_ok a2) (soundL es F a4)
          · cases b5
      · cases h
    · cases h
  | .newQ i cn gs, X, c, G, F, s, h => by
    simp only [chkS] at h
    split at h
    · rename_i t v hv
      split at h
      · rename_i fn p hv2
        obtain ⟨h1, u1⟩ := and2 h
        obtain ⟨h2, h3⟩ := and2 u1
        obtain ⟨p1, rfl⟩ := vAsg_ok hv
        obtain rfl := vCall_ok hv2
        obtain ⟨p2, rfl, hg, hdb⟩ := named_ok F h1
        exact r_newQ F h3 hg hdb h2
      · cases h
    · cases h
  | .newE i cn gs j own b, X, c, G, F, s, h => by
    simp only [chkS] at h
    split at h
    · rename_i t v hv
      split at h
      · rename_i x px y py ea eb hp
        split at h
        · rename_i fn p hv2
          obtain ⟨h1, u1⟩ := and2 h
          obtain ⟨h2, u2⟩ := and2 u1
          obtain ⟨h3, u3⟩ := and2 u2
          obtain ⟨h4, u4⟩ := and2 u3
          obtain ⟨h5, h6⟩ := and2 u4
          obtain ⟨p1, rfl⟩ := vAsg_ok hv
          obtain ⟨k, q, k2, q2, rfl, rfl⟩ := vPar_ok hp
          obtain rfl := vCall_ok hv2
          obtain ⟨p2, rfl, hg, hdb⟩ := named_ok F h1
          obtain ⟨n1, n2, n3⟩ := of_decide_eq_true h4
          exact r_newE F h2 hg hdb h3 n1 n2 (notPr_ok h5 j (by simp)) n3 (soundE b F h6).1
        · cases h
      · cases h
    · cases h
  | .newN i cn gs j cn1 gs1, X, c, G, F, s, h => by
    simp only [chkS] at h
    split at h
    · rename_i t v hv
      split at h
      · rename_i x px y py ea eb hp
        split at h
        · rename_i fn p fn1 p' hv2 hv3
          obtain ⟨h1, u1⟩ := and2 h
          obtain ⟨h2, u2⟩ := and2 u1
          obtain ⟨h3, u3⟩ := and2 u2
          obtain ⟨h4, u4⟩ := and2 u3
          obtain ⟨h5, h6⟩ := and2 u4
          obtain ⟨p1, rfl⟩ := vAsg_ok hv
          obtain ⟨k, q, k2, q2, rfl, rfl⟩ := vPar_ok hp
          obtain rfl := vCall_ok hv2
          obtain rfl := vCall_ok hv3
          obtain ⟨p2, rfl, hg, hdb⟩ := named_ok F h1
          obtain ⟨p3, rfl, hg1, hdb1⟩ := named_ok F h2
          obtain ⟨n1, n2, n3⟩ := of_decide_eq_true h6
          exact r_newN F h3 hg hdb h4 hg1 hdb1 h5 n1 n2 n3
        · cases h
      · cases h
    · cases h
theorem soundSs : ∀ (x : Sms) {X : Cx} {c : Cc} {G : Gx} (F : Fit X c G Φ) {s : List Stmt}, chkSs x c s = true → PSs X s (tS G c.pr (exSs Φ c.md x))
  | .nil, X, c, G, F, s, h => by
    simp only [chkSs] at h
    cases s with
    | nil => exact r_nil
    | cons _ _ => simp at h
  | .cons a r, X, c, G, F, s, h => by
    by_cases hn : a = .never ∧ r = .nil
    · obtain ⟨rfl, rfl⟩ := hn
      exact PSswk pss_never fun D σ H ⟨τ, hτ, S, e, rel, lnk, k⟩ => by
        rw [exSs, exS] at k; exact k
    · cases s with
      | nil =>
        exfalso
        unfold chkSs at h
        split at h <;> simp_all
      | cons st s =>
        have h' : (chkS a c st && chkSs r c s) = true := by
          unfold chkSs at h
          split at h <;> simp_all
        obtain ⟨h1, h2⟩ := and2 h'
        exact r_cons (soundS a F h1) (soundSs r F h2)
end
end
end Vc
end
section
set_option Elab.async false
set_option linter.all false
namespace Vc
open PySem PySem.Spec PyProof.Rows L2
variable [XrC]
theorem fm_congr {α β : Type} {f g : α → Option β} : ∀ {l : List α}, (∀ x ∈ l, f x = g x) → l.filterMap f = l.filterMap g
  | [], _ => rfl
  | a :: l, h => by
    rw [List.filterMap_cons, List.filterMap_cons, h a List.mem_cons_self, fm_congr fun x hx => h x (List.mem_cons_of_mem _ hx)]
theorem for_kw {ps : List Str} {f : Str × Value → List (Str × Value) × List (Str × Value) → Sem (ForInStep (List (Str × Value) × List (Str × Value)))}
    (hf : ∀ k v sl, ps.contains k = true → sl.lookup k = none → f (k, v) (sl, []) = pure (.yield (sl ++ [(k, v)], []))) :
    ∀ (kw sl : List (Str × Value)), (kw.map (·.1)).Nodup → (∀ y ∈ kw.map (·.1), y ∈ ps ∧ sl.lookup y = none) → forIn kw (sl, []) f = pure (sl ++ kw, [])
  | [], sl, _, _ => by rw [List.append_nil]; rfl
  | (k, v) :: r, sl, nd, h => by
    obtain ⟨h1, h2⟩ := h k List.mem_cons_self
    rw [List.forIn_cons, hf k v sl (by simpa using h1) h2, pure_bind]
    show forIn r (sl ++ [(k, v)], []) f = _
    rw [for_kw hf r (sl ++ [(k, v)]) (List.nodup_cons.mp nd).2 fun y hy => ⟨(h y (List.mem_cons_of_mem _ hy)).1, ?_⟩, List.append_assoc]
    · rfl
    · have n : y ≠ k := fun z => (List.nodup_cons.mp nd).1 (z ▸ hy)
      have hs := (h y (List.mem_cons_of_mem _ hy)).2
      rw [List.lookup_append, hs]
      rw [Option.none_or, List.lookup_cons, show (y == k) = false by simpa using n]
      rfl
theorem lookup_zip_none {α : Type} : ∀ {ps : List Str} {us : List α} {y : Str}, y ∉ ps.take us.length → (ps.zip us).lookup y = none
  | [], _, _, _ => by simp
  | p :: ps, [], _, _ => by simp
  | p :: ps, u :: us, y, h => by
    have h : y ∉ p :: ps.take us.length := h
    have n : y ≠ p := fun e => h (e ▸ List.mem_cons_self)
    show List.lookup y ((p, u) :: ps.zip us) = none
    rw [List.lookup_cons, show (y == p) = false by simpa using n]
    exact lookup_zip_none fun z => h (List.mem_cons_of_mem _ z)
theorem lookup_zip_self {α : Type} : ∀ {ps : List Str} {us : List α}, ps.Nodup → us.length = ps.length → ps.filterMap (fun n => ((ps.zip us).lookup n).map (n, ·)) = ps.zip us
  | [], _, _, _ => by simp
  | p :: ps, [], _, h => by simp at h
  | p :: ps, u :: us, nd, h => by
    have hz : (p :: ps).zip (u :: us) = (p, u) :: ps.zip us := rfl
    rw [List.filterMap_cons, hz]
    simp only [List.lookup_cons, beq_self_eq_true, Option.map_some]
    congr 1
    refine Eq.trans ?_ (lookup_zip_self (List.nodup_cons.mp nd).2 (by simpa using h))
    refine fm_congr fun x hx => ?_
    have : x ≠ p := fun e => (List.nodup_cons.mp nd).1 (e ▸ hx)
    rw [show (x == p) = false by simpa using this]
theorem mapM_lookup {α : Type} {kw : List (Str × α)} : ∀ {ps : List Str} {ws : List α}, ps.mapM (fun p => kw.lookup p) = some ws → ws.length = ps.length ∧ ps.filterMap (fun n => (kw.lookup n).map (n, ·)) = ps.zip ws
  | [], ws, h => by simp at h; subst h; simp
  | p :: ps, ws, h => by
    rw [List.mapM_cons] at h
    cases h1 : kw.lookup p with
    | none => rw [h1] at h; cases h
    | some w =>
      cases h2 : ps.mapM (fun p => kw.lookup p) with
      | none => rw [h1] at h; simp [h2] at h
      | some ws' =>
        rw [h1] at h
        simp [h2] at h
        subst h
        obtain ⟨l, e⟩ := mapM_lookup h2
        refine ⟨by simp [l], ?_⟩
        rw [List.filterMap_cons, h1]
        show (p, w) :: _ = (p, w) :: ps.zip ws'
        rw [e]
theorem bind_ok {x qual : Str} {fa : Arguments} {body : List Stmt} {sc : Scope} {kV doc pm cdv ct : Value} {an : Option Addr} {ps : List Str} {us us' : List Value} {kw : List (Str × Value)} 
   (h0 : fa.posonlyargs = []) (h1 : fa.args.map (·.arg) = ps) (h2 : fa.vararg = none) (h3 : fa.kwonlyargs = []) (h4 : fa.kwarg = none) (nd : ps.Nodup)
   (n1 : (kw.map (·.1)).Nodup) (n2 : ∀ y ∈ kw.map (·.1), y ∈ ps.drop us.length) (n3 : us'.length = ps.length) (n4 : kwSel ps us kw = some us') :
   bindArgs (PySem.W.fnOf x qual fa body sc .none kV doc pm an cdv ct) ⟨us, kw⟩ = pure (ps.zip us') := by
  obtain ⟨ws, m1, rfl⟩ : ∃ ws, (ps.drop us.length).mapM (fun p => kw.lookup p) = some ws ∧ us' = us ++ ws := by
    unfold kwSel at n4
    cases h : (ps.drop us.length).mapM (fun p => kw.lookup p) with
    | none => rw [h] at n4; cases n4
    | some ws => rw [h] at n4; cases n4; exact ⟨ws, rfl, rfl⟩
  obtain ⟨m2, m3⟩ := mapM_lookup m1
  have hul : us.length ≤ ps.length := by rw [List.length_append] at n3; omega
  have notin : ∀ y, y ∈ ps.drop us.length → y ∉ ps.take us.length := fun y h1 h2 => by
    have := List.take_append_drop us.length ps ▸ nd
    exact (List.nodup_append.mp this).2.2 y h2 y h1 rfl
  have hsl : ps.filterMap (fun n => ((ps.zip us ++ kw).lookup n).map (n, ·)) = ps.zip (us ++ ws) := by
    conv => lhs; rw [show ps.filterMap (fun n => ((ps.zip us ++ kw).lookup n).map (n, ·)) = (ps.take us.length ++ ps.drop us.length).filterMap (fun n => ((ps.zip us ++ kw).lookup n).map (n, ·)) by rw [List.take_append_drop]]
    rw [List.filterMap_append]
    have e1 : (ps.take us.length).filterMap (fun n => ((ps.zip us ++ kw).lookup n).map (n, ·)) = (ps.take us.length).zip us := by
      refine Eq.trans (fm_congr fun y hy => ?_) (lookup_zip_self (nd.sublist (List.take_sublist _ _)) (by rw [List.length_take]; omega))
      have hz : ps.zip us = (ps.take us.length).zip us := by
        conv => lhs; rw [← List.take_append_drop us.length ps, show us = us ++ [] by simp, List.zip_append (by simp; omega)]
        simp
      rw [List.lookup_append, ← hz]
      cases hl : (ps.zip us).lookup y with
      | some u => rfl
      | none =>
        obtain ⟨i, hi, e⟩ := List.mem_iff_getElem.mp hy
        rw [List.length_take] at hi
        have : (y, us[i]'(by omega)) ∈ ps.zip us := by
          refine List.mem_iff_getElem.mpr ⟨i, by rw [List.length_zip]; omega, ?_⟩
          rw [List.getElem_zip, ← e, List.getElem_take]
        exact absurd (List.lookup_eq_none_iff.mp hl _ this) (by simp)
    have e2 : (ps.drop us.length).filterMap (fun n => ((ps.zip us ++ kw).lookup n).map (n, ·)) = (ps.drop us.length).zip ws := by
      refine Eq.trans (fm_congr fun y hy => ?_) m3
      rw [List.lookup_append, lookup_zip_none (notin y hy)]
      rfl
    rw [e1, e2, ← List.zip_append (by rw [List.length_take]; omega), List.take_append_drop]
  have hmiss : (ps.filter fun n => ((ps.zip us ++ kw).lookup n).isNone) = [] := by
    rw [List.filter_eq_nil_iff]
    intro y hy hn
    have : (ps.filterMap (fun n => ((ps.zip us ++ kw).lookup n).map (n, ·))).map (·.1) = ps := by
      rw [hsl, List.map_fst_zip (by omega)]
    rw [← this] at hy
    obtain ⟨⟨z, v⟩, hz, rfl⟩ := List.mem_map.mp hy
    obtain ⟨q, _, e⟩ := List.mem_filterMap.mp hz
    obtain ⟨v', e1, e2⟩ := Option.map_eq_some_iff.mp e
    cases e2
    simp [e1] at hn
  unfold bindArgs
  simp only [PySem.W.fnOf, h0, h1, h2, h3, h4, List.nil_append, List.map_nil, List.append_nil]
  rw [for_kw (ps := ps) (fun k v sl c n => by rw [if_pos (by rw [c]; rfl), if_neg (by rw [n]; simp)]) kw (ps.zip us) n1 fun y hy => ⟨List.mem_of_mem_drop (n2 y hy), lookup_zip_none (notin y (n2 y hy))⟩, pure_bind]
  show (do
    let __do_lift ← (pure none : Sem (Option (Array Value)))
    _) = _
  rw [pure_bind]
  have hg : ¬ (us.length > ps.length) := by omega
  simp only [hg, decide_false, Bool.false_and, Option.getD_none, List.length_nil, Nat.sub_zero, List.take_length, List.drop_length, hmiss, hsl, List.zip_nil_left, List.isEmpty_nil, Bool.not_true, if_false, Bool.false_eq_true, List.drop_nil]
  simp only [List.forIn_nil, pure_bind, List.isEmpty_nil, Bool.not_true, Bool.false_eq_true, if_false, hsl]

section
variable {K : Fg} {S S' H H' : Hp}
theorem inits_len : ∀ {md : List Md} {as : List AV} {e : En}, inits md as = some e → e = as.map slOf ∧ as.length = md.length
  | [], [], e, h => by cases h; exact ⟨rfl, rfl⟩
  | [], _ :: _, _, h => by cases h
  | .v :: md, .v d :: as, e, h => by
    obtain ⟨e1, h1, rfl⟩ := Option.map_eq_some_iff.mp (show (inits md as).map _ = some e from h)
    obtain ⟨rfl, l⟩ := inits_len h1
    exact ⟨rfl, congrArg (· + 1) l⟩
  | .m :: md, .m d :: as, e, h => by
    obtain ⟨e1, h1, rfl⟩ := Option.map_eq_some_iff.mp (show (inits md as).map _ = some e from h)
    obtain ⟨rfl, l⟩ := inits_len h1
    exact ⟨rfl, congrArg (· + 1) l⟩
  | .f :: md, .f d :: as, e, h => by
    obtain ⟨e1, h1, rfl⟩ := Option.map_eq_some_iff.mp (show (inits md as).map _ = some e from h)
    obtain ⟨rfl, l⟩ := inits_len h1
    exact ⟨rfl, congrArg (· + 1) l⟩
  | .q :: md, .q :: as, e, h => by
    obtain ⟨e1, h1, rfl⟩ := Option.map_eq_some_iff.mp (show (inits md as).map _ = some e from h)
    obtain ⟨rfl, l⟩ := inits_len h1
    exact ⟨rfl, congrArg (· + 1) l⟩
  | .v :: _, [], _, h | .m :: _, [], _, h | .f :: _, [], _, h | .q :: _, [], _, h => by cases h
  | .v :: _, .m _ :: _, _, h | .v :: _, .f _ :: _, _, h | .m :: _, .v _ :: _, _, h | .m :: _, .f _ :: _, _, h | .f :: _, .v _ :: _, _, h | .f :: _, .m _ :: _, _, h => by cases h
  | .v :: _, .q :: _, _, h | .m :: _, .q :: _, _, h | .f :: _, .q :: _, _, h | .q :: _, .v _ :: _, _, h | .q :: _, .m _ :: _, _, h | .q :: _, .f _ :: _, _, h => by cases h
theorem inits_mode : ∀ {md : List Md} {as : List AV} {e : En} {i : Nat}, inits md as = some e → md[i]? = some .m → ∃ ds, as[i]? = some (.m ds)
  | [], [], e, i, h, q => by simp at q
  | [], _ :: _, _, _, h, _ => by cases h
  | m :: md, a :: as, e, 0, h, q => by
    simp at q; subst q
    cases a <;> first | (cases h; done) | exact ⟨_, rfl⟩
  | m :: md, a :: as, e, i + 1, h, q => by
    have : ∃ e1, inits md as = some e1 := by
      cases m <;> cases a <;> first | (cases h; done) | (obtain ⟨e1, h1, _⟩ := Option.map_eq_some_iff.mp (show (inits md as).map _ = some e from h); exact ⟨e1, h1⟩)
    obtain ⟨e1, h1⟩ := this
    exact inits_mode (i := i) h1 (by simpa using q)
  | m :: _, [], _, _, h, _ => by cases m <;> cases h
theorem inits_no : ∀ {md : List Md} {as : List AV} {e : En} {i : Nat} {m : Md} {av : AV} {ds : List D}, inits md as = some e → md[i]? = some m → as[i]? = some av → slOf av = .o ds → m ≠ .m → False
  | [], _, _, _, _, _, _, _, q, _, _, _ => by simp at q
  | _ :: _, [], _, _, _, _, _, _, _, q, _, _ => by simp at q
  | m :: md, a :: as, e, 0, _, _, ds, h, q, q', hs, n => by
    simp at q q'; subst q; subst q'
    cases m <;> cases a <;> first | (cases h; done) | (cases hs; done) | exact n rfl
  | m :: md, a :: as, e, i + 1, _, _, ds, h, q, q', hs, n => by
    have : ∃ e1, inits md as = some e1 := by
      cases m <;> cases a <;> first | (cases h; done) | (obtain ⟨e1, h1, _⟩ := Option.map_eq_some_iff.mp (show (inits md as).map _ = some e from h); exact ⟨e1, h1⟩)
    obtain ⟨e1, h1⟩ := this
    exact inits_no (i := i) h1 (by simpa using q) (by simpa using q') hs n
theorem fins_get : ∀ {md : List Md} {e : En} {i : Nat} {s : Sl}, (fins md e)[i]? = some s → s = .no ∨ (md[i]? = some .m ∧ e[i]? = some s)
  | [], _, _, _, h => by simp [fins] at h
  | .m :: _, [], _, _, h | .v :: _, [], _, _, h | .f :: _, [], _, _, h | .q :: _, [], _, _, h => by simp [fins] at h
  | .q :: md, s :: e, 0, t, h => by simp [fins] at h; exact .inl h.symm
  | .q :: md, s :: e, i + 1, t, h => by simpa using fins_get (i := i) (show (fins md e)[i]? = some t by simpa [fins] using h)
  | .m :: md, s :: e, 0, t, h => by simp [fins] at h; subst h; exact .inr ⟨rfl, rfl⟩
  | .v :: md, s :: e, 0, t, h => by simp [fins] at h; exact .inl h.symm
  | .f :: md, s :: e, 0, t, h => by simp [fins] at h; exact .inl h.symm
  | .m :: md, s :: e, i + 1, t, h => by simpa using fins_get (i := i) (show (fins md e)[i]? = some t by simpa [fins] using h)
  | .v :: md, s :: e, i + 1, t, h => by simpa using fins_get (i := i) (show (fins md e)[i]? = some t by simpa [fins] using h)
  | .f :: md, s :: e, i + 1, t, h => by simpa using fins_get (i := i) (show (fins md e)[i]? = some t by simpa [fins] using h)
theorem fins_len : ∀ {md : List Md} {e : En}, md.length ≤ e.length → (fins md e).length = md.length
  | [], _, _ => rfl
  | _ :: _, [], h => by simp at h
  | .m :: md, s :: e, h => by simp [fins, fins_len (md := md) (e := e) (by simpa using h)]
  | .v :: md, s :: e, h => by simp [fins, fins_len (md := md) (e := e) (by simpa using h)]
  | .f :: md, s :: e, h => by simp [fins, fins_len (md := md) (e := e) (by simpa using h)]
  | .q :: md, s :: e, h => by simp [fins, fins_len (md := md) (e := e) (by simpa using h)]
theorem finL_get : ∀ {md : List Md} {e : En} {i : Nat}, finL md e = true → md.length ≤ e.length → md[i]? = some .m → ∃ ds, e[i]? = some (.o ds) ∨ e[i]? = some (.v (.list ds))
  | [], _, _, _, _, h => by simp at h
  | _ :: _, [], _, _, h, _ => by simp at h
  | .m :: md, s :: e, 0, h, _, _ => by
    unfold finL at h
    split at h <;> simp_all
  | .v :: md, s :: e, 0, h, _, q => by simp at q
  | .f :: md, s :: e, 0, h, _, q => by simp at q
  | .q :: md, s :: e, 0, h, _, q => by simp at q
  | .q :: md, s :: e, i + 1, h, l, q => by simpa using finL_get (i := i) (show finL md e = true by simpa [finL] using h) (by simpa using l) (by simpa using q)
  | .m :: md, s :: e, i + 1, h, l, q => by
    have : finL md e = true := by
      unfold finL at h
      split at h <;> simp_all
    simpa using finL_get (i := i) this (by simpa using l) (by simpa using q)
  | .v :: md, s :: e, i + 1, h, l, q => by simpa using finL_get (i := i) (show finL md e = true by simpa [finL] using h) (by simpa using l) (by simpa using q)
  | .f :: md, s :: e, i + 1, h, l, q => by simpa using finL_get (i := i) (show finL md e = true by simpa [finL] using h) (by simpa using l) (by simpa using q)
def pad (n : Nat) (md : List Md) (e : En) : En := e ++ List.replicate (n - md.length) .no
theorem pad_get {n : Nat} {md : List Md} {e : En} {i : Nat} {s : Sl} (h : (pad n md e)[i]? = some s) : s = .no ∨ e[i]? = some s := by
  unfold pad at h
  rw [List.getElem?_append] at h
  split at h
  · exact .inr h
  · rw [List.getElem?_replicate] at h
    split at h <;> cases h
    exact .inl rfl
theorem start_get {N : List Str} {vs : List V} {i : Nat} {x : V} (h : (L2.start N vs)[i]? = some (some x)) : vs[i]? = some x := by
  unfold L2.start at h
  rw [List.getElem?_append] at h
  split at h
  · exact some_get.mp h
  · rw [List.getElem?_replicate] at h
    split at h <;> cases h
theorem start_at {N : List Str} {vs : List V} {i : Nat} {x : V} (h : vs[i]? = some x) : (L2.start N vs)[i]? = some (some x) := by
  have hi : i < vs.length := (List.getElem?_eq_some_iff.mp h).1
  unfold L2.start
  rw [List.getElem?_append_left (by simpa using hi)]
  exact some_get.mpr h
theorem pad_at {n : Nat} {md : List Md} {e : En} {i : Nat} {s : Sl} (h : e[i]? = some s) : (pad n md e)[i]? = some s := by
  have hi : i < e.length := (List.getElem?_eq_some_iff.mp h).1
  unfold pad
  rw [List.getElem?_append_left hi]
  exact h
theorem own_start {N : List Str} {n : Nat} {md : List Md} {vs : List V} {e : En} {a : Addr} : OwnAt (L2.start N vs) (pad n md e) a ↔ OwnAt (vs.map some) e a := by
  constructor
  · rintro ⟨i, ds, h1, h2⟩
    rcases pad_get h1 with q | q
    · cases q
    · exact ⟨i, ds, q, some_get.mpr (start_get h2)⟩
  · rintro ⟨i, ds, h1, h2⟩
    exact ⟨i, ds, pad_at h1, start_at (some_get.mp h2)⟩
theorem rel_start {N : List Str} {md : List Md} {vs : List V} {e : En} (q : Rel K S H (vs.map some) e) (hl : e.length = md.length) (hN : md.length ≤ N.length) : Rel K S H (L2.start N vs) (pad N.length md e) := by
  have hv : e.length = vs.length := by simpa using q.len
  refine ⟨q.sub, ?_, fun i d h => ?_, fun i ds h => ?_, fun i j a ds es h1 h2 h3 h4 => ?_, fun i ds h => ?_, fun i x h => by
    rcases pad_get h with z | z
    · cases z
    · obtain ⟨a, h1, h2⟩ := q.exc i x z
      exact ⟨a, start_at (some_get.mp h1), h2⟩⟩
  · unfold pad L2.start
    simp
    omega
  · rcases pad_get h with z | z
    · cases z
    · obtain ⟨x, h1, h2⟩ := q.val i d z
      exact ⟨x, start_at (some_get.mp h1), h2⟩
  · rcases pad_get h with z | z
    · cases z
    · obtain ⟨a, xs, h1, h2⟩ := q.own i ds z
      exact ⟨a, xs, start_at (some_get.mp h1), h2⟩
  · rcases pad_get h1 with z | z
    · cases z
    · rcases pad_get h2 with z' | z'
      · cases z'
      · exact q.dis i j a ds es z z' (some_get.mpr (start_get h3)) (some_get.mpr (start_get h4))
  · rcases pad_get h with z | z
    · cases z
    · obtain ⟨a, xs, h1, h2⟩ := q.fgn i ds z
      exact ⟨a, xs, start_at (some_get.mp h1), h2⟩
/-- the positions of the lists that are lent -/
def prsFrom : Nat → List Md → List Nat
  | _, [] => []
  | n, .m :: md => n :: prsFrom (n + 1) md
  | n, _ :: md => prsFrom (n + 1) md
theorem prs_mem : ∀ {md : List Md} {n i : Nat}, md[i]? = some .m → n + i ∈ prsFrom n md
  | [], _, _, h => by simp at h
  | .m :: md, n, 0, h => by simp [prsFrom]
  | .v :: md, n, 0, h => by simp at h
  | .f :: md, n, 0, h => by simp at h
  | .q :: md, n, 0, h => by simp at h
  | m :: md, n, i + 1, h => by
    have q := prs_mem (n := n + 1) (show md[i]? = some .m by simpa using h)
    rw [show n + 1 + i = n + (i + 1) by omega] at q
    cases m
    · exact q
    · exact List.mem_cons_of_mem _ q
    · exact q
    · exact q
/-- the end of a def, as the caller has it -/
theorem fin_grow {G : Gx} {N : List Str} {md : List Md} {vs : List V} {as : List AV} {σ' : L2.St} {e1 : En} (hi : inits md as = some (as.map slOf)) (hv : as.length = vs.length) (hm : md.length = as.length)
    {pr : List Nat} (hp : ∀ i : Nat, md[i]? = some .m → i ∈ pr ∧ i ∉ G.nw) (g : SG G pr S H (L2.start N vs) (pad N.length md (as.map slOf)) S' H' σ' e1) (hf : finL md e1 = true) (hN : md.length ≤ N.length) (hs : (L2.start N vs).length = N.length) :
    Grow G.K S H (vs.map some) (as.map slOf) S' H' (vs.map some) (fins md e1) := by
  have q := g.g.rel
  have hle : md.length ≤ e1.length := by rw [q.len, g.len, hs]; exact hN
  have keep : ∀ {i : Nat} {x : V}, md[i]? = some .m → σ'[i]? = some (some x) → (vs.map some)[i]? = some (some x) := fun {i x} hmd hx => by
    have := g.pr i (hp i hmd).1 (hp i hmd).2
    rw [this] at hx
    exact some_get.mpr (start_get hx)
  refine ⟨⟨q.sub, ?_, fun i d h => ?_, fun i ds h => ?_, fun i j a ds es h1 h2 h3 h4 => ?_, fun i ds h => ?_, fun i x h => by
    rcases fins_get h with z | ⟨z1, z2⟩
    · cases z
    · obtain ⟨a, h1, h2⟩ := q.exc i x z2
      exact ⟨a, keep z1 h1, h2⟩⟩, g.g.sub, fun a o h n => g.g.keep a o h fun w => n (own_start.mp w), fun a o h n s => g.g.free a o h (fun w => n (own_start.mp w)) s, fun a w => ?_⟩
  · rw [fins_len hle, List.length_map]; omega
  · rcases fins_get h with z | ⟨z1, z2⟩
    · cases z
    · obtain ⟨x, h1, h2⟩ := q.val i d z2
      exact ⟨x, keep z1 h1, h2⟩
  · rcases fins_get h with z | ⟨z1, z2⟩
    · cases z
    · obtain ⟨a, xs, h1, h2⟩ := q.own i ds z2
      exact ⟨a, xs, keep z1 h1, h2⟩
  · rcases fins_get h1 with z | ⟨z1, z2⟩
    · cases z
    · rcases fins_get h2 with y | ⟨y1, y2⟩
      · cases y
      · have k1 : σ'[i]? = some (some (V.ref a)) := by rw [g.pr i (hp i z1).1 (hp i z1).2]; exact start_at (some_get.mp h3)
        have k2 : σ'[j]? = some (some (V.ref a)) := by rw [g.pr j (hp j y1).1 (hp j y1).2]; exact start_at (some_get.mp h4)
        exact q.dis i j a ds es z2 y2 k1 k2
  · rcases fins_get h with z | ⟨z1, z2⟩
    · cases z
    · obtain ⟨es, y | y⟩ := finL_get hf hle z1 <;> rw [z2] at y <;> cases y
  · obtain ⟨i, ds, h1, h2⟩ := w
    rcases fins_get h1 with z | ⟨z1, z2⟩
    · cases z
    · have k1 : σ'[i]? = some (some (V.ref a)) := by rw [g.pr i (hp i z1).1 (hp i z1).2]; exact start_at (some_get.mp h2)
      rcases g.g.own a ⟨i, ds, z2, k1⟩ with y | y
      · exact .inl (own_start.mp y)
      · exact .inr y
theorem fin_res {G : Gx} {N : List Str} {md : List Md} {vs : List V} {as : List AV} {σ' : L2.St} {e1 : En} {r : RV} {x : V} {cv : CV} (hi : inits md as = some (as.map slOf)) 
    {pr : List Nat} (hp : ∀ i : Nat, md[i]? = some .m → i ∈ pr ∧ i ∉ G.nw) (g : SG G pr S H (L2.start N vs) (pad N.length md (as.map slOf)) S' H' σ' e1) (hf : finL md e1 = true) (hN : md.length ≤ N.length) (hs : (L2.start N vs).length = N.length)
    (p : RepR G.K S' H' σ' e1 r x) (fr : Frs H (L2.start N vs) (pad N.length md (as.map slOf)) r x) (ho : outR md e1 r = some cv) : ResR G.K H S' H' vs as cv x := by
  have q := g.g.rel
  have hle : md.length ≤ e1.length := by rw [q.len, g.len, hs]; exact hN
  -- an own list that was one of the lent ones
  have lent : ∀ a, OwnAt (L2.start N vs) (pad N.length md (as.map slOf)) a → S' a = none → ∃ i ds, md[i]? = some Md.m ∧ e1[i]? = some (Sl.o ds) ∧ σ'[i]? = some (some (V.ref a)) := fun a w sn => by
    obtain ⟨i, ds, h1, h2⟩ := w
    rcases pad_get h1 with z | z
    · cases z
    · have hmd : md[i]? = some Md.m := by
        rw [List.getElem?_map] at z
        obtain ⟨av, z1, z2⟩ := Option.map_eq_some_iff.mp z
        have hil := (inits_len hi).2
        have : i < md.length := by rw [← hil]; exact (List.getElem?_eq_some_iff.mp z1).1
        cases hh : md[i]? with
        | none => rw [List.getElem?_eq_none_iff] at hh; omega
        | some m =>
          cases m with
          | m => rfl
          | v => exact (inits_no hi hh z1 z2 (by decide)).elim
          | f => exact (inits_no hi hh z1 z2 (by decide)).elim
          | q => exact (inits_no hi hh z1 z2 (by decide)).elim
      have k1 : σ'[i]? = some (some (V.ref a)) := by rw [g.pr i (hp i hmd).1 (hp i hmd).2]; exact h2
      obtain ⟨es, y | y⟩ := finL_get hf hle hmd
      · exact ⟨i, es, hmd, y, k1⟩
      · obtain ⟨x', h3, h4⟩ := q.val i _ y
        rw [k1] at h3; cases h3
        cases h4 with
        | lst h5 _ => rw [sn] at h5; cases h5
  cases r with
  | v d => cases ho; exact p
  | o ds =>
    cases ho
    obtain ⟨a, xs, rfl, h1, h2, h3, h4⟩ := p
    refine ⟨a, xs, rfl, h1, h2, h3, ?_⟩
    rcases fr a rfl with w | w
    · exact w
    · obtain ⟨i, es, k1, k2, k3⟩ := lent a w h2
      exact absurd ⟨i, es, k2, k3⟩ h4
  | b i =>
    simp only [outR] at ho
    split at ho
    · rename_i hm
      cases ho
      have k := g.pr i (hp i hm).1 (hp i hm).2
      have p' : σ'[i]? = some (some x) := p
      rw [k] at p'
      exact ⟨start_get p', inits_mode hi hm⟩
    · rename_i hm
      split at ho
      · rename_i ds he
        cases ho
        obtain ⟨a, xs, h1, h2, h3, h4⟩ := q.own i ds he
        have p' : σ'[i]? = some (some x) := p
        rw [h1] at p'; cases p'
        refine ⟨a, xs, rfl, h2, h3, h4, ?_⟩
        rcases g.g.own a ⟨i, ds, he, h1⟩ with w | w
        · obtain ⟨j, es, k1, k2, k3⟩ := lent a w h3
          have := q.dis i j a ds es he k2 h1 k3
          subst this
          exact absurd k1 hm
        · exact w
      · rename_i d he
        cases ho
        obtain ⟨y, h1, h2⟩ := q.val i d he
        have p' : σ'[i]? = some (some x) := p
        rw [h1] at p'; cases p'
        exact h2
      · cases ho
end
end Vc
end
section
set_option Elab.async false
set_option linter.all false
namespace Vc
open PySem PySem.Spec PyProof.Rows L2
variable [XrC]
def simpleArgs (a : Arguments) (ps : List Str) : Bool := a.posonlyargs.isEmpty && (a.kwonlyargs.isEmpty && (a.vararg.isNone && (a.kwarg.isNone && (a.defaults.isEmpty && decide (a.args.map (·.arg) = ps)))))
def scopeOk (N ps : List Str) (sc : Scope) : Bool := fnKind sc.kind && (!sc.isCoroutine && (!sc.isGenerator && (decide N.Nodup && (decide (N.take ps.length = ps) && ((ps.all fun x => locB sc x) && (sc.names.all fun y => decide (y.2 ≠ .free)))))))
theorem scope_ok {N ps : List Str} {sc : Scope} (h : scopeOk N ps sc = true) : FnScope N ps sc := by
  unfold scopeOk at h
  obtain ⟨h1, h⟩ := and2 h
  obtain ⟨h2, h⟩ := and2 h
  obtain ⟨h3, h⟩ := and2 h
  obtain ⟨h4, h⟩ := and2 h
  obtain ⟨h5, h⟩ := and2 h
  obtain ⟨h6, h7⟩ := and2 h
  refine ⟨fnKind_ok h1, by simpa using h2, by simpa using h3, of_decide_eq_true h4, of_decide_eq_true h5, fun x hx => ?_, fun y hy => ?_⟩
  · have q := locB_ok (List.all_eq_true.mp h6 x hx)
    exact q
  · exact of_decide_eq_true (List.all_eq_true.mp h7 y hy)
/-- what the written part says of the base class, at CB -/
structure InT (K : Fg) (mg : Str → Option Value) (x : Str) (CB : Addr) : Prop where
  gB : mg x = some (.ref CB)
  rB : PySem.W.readsIn K CB (.type "type") = true
  fB : PySem.W.findCls K (.ref CB) (.type "type") "__init__" = some (.val (.builtin "ValueError.__init__"))
  sB : PySem.W.specialIn K (.ref CB) "__getattribute__" = some (some (.builtin "type.__getattribute__"))
/-- the body: B.__init__(self, 'm'); self.f = f -/
def vInit : List Stmt → Option (List Str × Bool)
  | [.Expr (.Call (.Attribute (.Name x _) n p2) [.Name y _, .Constant (.str _) _ _] [] p5) _, .Assign [.Attribute (.Name z _) g _] (.Name u _) _] => some ([x, n, y, z, g, u], p2.endLine == p5.line)
  | _ => none
theorem vInit_ok {b : List Stmt} {x n y z g u : Str} {l : Bool} (h : vInit b = some ([x, n, y, z, g, u], l)) : ∃ p1 p2 p3 m j p4 p5 p6 q1 q2 q3 q4, (p2.endLine == p5.line) = l ∧
    b = [.Expr (.Call (.Attribute (.Name x p1) n p2) [.Name y p3, .Constant (.str m) j p4] [] p5) p6, .Assign [.Attribute (.Name z q1) g q2] (.Name u q3) q4] := by
  unfold vInit at h
  split at h
  · cases h
    exact ⟨_, _, _, _, _, _, _, _, _, _, _, _, rfl, rfl⟩
  · cases h
def initIs (x f : Str) (st : Stmt) : Bool := simpleArgs (defArgs st) ["self", f] && (scopeOk ["self", f] ["self", f] (defScope st) && (glB (defScope st) x && (decide (vInit (defBody st) = some ([x, "__init__", "self", "self", f, f], true)) && (!(f == ("__debug__" : Str)) && !(f == ("__classdict__" : Str))))))
section
variable {X : Cx} {e : Expr} {es : List Expr} {ta : TA} {p1 p2 pos : Pos} {x : Str} {CB : Addr}
theorem pe_binit (T : InT X.K X.mg x CB) (hg : Gl X x) (hdb : (x == ("__debug__" : Str)) = false) (hli : (p2.endLine == pos.line) = true) (ha : PA X (e :: es) ta)
    (hfew : methodCallForm ((e :: es).length + ([] : List Keyword).length) (backTo pos (starEach (e :: es) X.env)) (backToKw pos (keywordEach [] X.env)) = true := by rfl)
    (he : starEach (e :: es) X.env = (false, eval e X.env) :: starEach es X.env := by rfl) (hpl : (backTo pos (starEach es X.env)).any (·.1) = false := by rfl) :
    PE X (.Call (.Attribute (.Name x p1) "__init__" p2) (e :: es) [] pos) (tVeI X.K ta) := by
  refine ⟨fun pins s σ H Q I h => ?_⟩
  rw [arm_eval_Call, show attributeBase (.Name x p1) "__init__" X.env (eval (.Name x p1) X.env) = eval (.Name x p1) X.env from rfl]
  refine wpAny_bind (ld_glob I hg T.gB ?_ hdb)
  refine wpAny_bind (wpAny_standAt ?_)
  have hpos : methodCallPos true (.Name x p1) X.env p2 pos = pure pos := by unfold methodCallPos; simp [hli]
  unfold methodCall
  rw [hfew]
  refine wpAny_bind (wpAny_holding (PySem.W.method_cls I.kIn T.sB (PySem.W.cls_value I.kIn T.rB T.fB (by decide +kernel) ?_)))
  refine wpAny_bind (wpAny_of_eq hpos ?_)
  show wpAny _ _ (callWith pos (Value.builtin "ValueError.__init__") [] (backTo pos (starEach (e :: es) X.env)) []) _ _ _
  refine PyProof.Rows.callWith_method1 (thn (ha.run pos pins _ σ H _ (I.tok _) h) fun us s1 hh => ?_) he hpl
  obtain ⟨vs, H1, I1, r1, a, C, ws, ev, hl, TC, ea, q⟩ := hh
  subst ev
  cases r1 with
  | @cons _ u0 _ ur ra rw' =>
    cases (show u0 = Value.ref a from ra)
    have hlen : ur.length ≤ sizeLine := by
      have := Paired.length rw'
      rw [sizeLine_eq]
      omega
    exact oinit_ok TC I1 ea hlen fun s' J => ⟨.non, H1, J, rfl, q⟩
end
section
variable {P : Program} {w : World} {K : Fg} {mg : Str → Option Value} {base : Heap}
theorem init_fn {x f qual : Str} {st : Stmt} {C CB fI : Addr} {fd : FuncData} (B : InT K mg x CB) (F : Fun K "__init__" qual st fI fd) (hi : initIs x f st = true) (T : OexC K C) (noF : PySem.W.findIn K (.ref C) f = some none) :
    FnOk P w K mg base (L2.CX P w) 1 fI fd ["self", f] (spI C f) ∧ Binds K fd ["self", f] [] := by
  unfold initIs at hi
  obtain ⟨h1, hi⟩ := and2 hi
  obtain ⟨h2, hi⟩ := and2 hi
  obtain ⟨h3, hi⟩ := and2 hi
  obtain ⟨h4, hi⟩ := and2 hi
  obtain ⟨h5, h6⟩ := and2 hi
  have S := scope_ok h2
  have hb := of_decide_eq_true h4
  simp only [glB, Bool.and_eq_true, beq_iff_eq, bne_iff_ne, ne_eq] at h3
  obtain ⟨q1, q2, q3, m, j, q4, q5, q6, r1, r2, r3, r4, hline, hbody⟩ := vInit_ok hb
  constructor
  · refine F.okX S (fun vs H Q E h => ?_) fun cdv A outer s H vs Q E hr h => ?_
    · obtain ⟨a, v, rfl, _⟩ := h
      rfl
    · have vis : ∀ y ∈ (["self", f] : List Str), Vis (defScope st) y := fun y hy => by
        rcases S.par y hy with z | z
        · exact .inl z
        · exact .inr (.inl z)
      rw [hbody]
      refine ⟨_, pss_cons (ps_expr (pe_binit (X := cxOf (L2.CX P w) P w K mg base ["self", f] qual (defScope st) fI cdv A outer s H E) B h3.1 (by simpa using h3.2.1) hline (pa_cons (pe_var (i := 0) rfl (vis _ (by simp))) (pa_cons pe_str pa_nil))))
        (pss_one (ps_ost (pe_var (i := 0) rfl (vis _ (by simp))) (pe_var (i := 1) rfl (vis _ (by simp)) (by simpa using h5) (by simpa using h6)))), ?_⟩
      obtain ⟨a, v, rfl, e1, k⟩ := h
      refine ⟨_, rfl, a, C, [.str m], rfl, by simp, T, e1, ?_⟩
      exact ⟨_, rfl, _, rfl, a, C, rfl, T, noF, .inl ⟨e1, fun dx n ne => k dx n ne⟩⟩
  · unfold simpleArgs at h1
    obtain ⟨a1, h1⟩ := and2 h1
    obtain ⟨a2, h1⟩ := and2 h1
    obtain ⟨a3, h1⟩ := and2 h1
    obtain ⟨a4, h1⟩ := and2 h1
    obtain ⟨a5, a6⟩ := and2 h1
    have a6 : (defArgs st).args.map (·.arg) = [("self" : Str), f] := of_decide_eq_true a6
    refine F.binds fun kV doc pm an cdv ct us hl => ?_
    exact bind_ok (ps := ["self", f]) (us := us) (us' := us) (kw := []) (by simpa using a1) a6 (by simpa using a3) (by simpa using a2) (by simpa using a4) S.nd .nil (by intro y hy; cases hy) hl (by
      have hz : ([("self" : Str), f].drop us.length = []) := List.drop_eq_nil_of_le (Nat.le_of_eq hl.symm)
      unfold kwSel
      rw [hz]
      simp)
end
end Vc
end
section
set_option Elab.async false
set_option linter.all false
namespace Vc
open PySem PySem.Spec PyProof.Rows L2
variable [XrC]
def vInitQ : List Stmt → Option (Str × Str × Str × Str)
  | [.Assign [.Attribute (.Name x _) f _] (.List [] _) _, .Assign [.Attribute (.Name y _) g _] (.List [] _) _] => some (x, f, y, g)
  | _ => none
theorem vInitQ_ok {b : List Stmt} {x f y g : Str} (h : vInitQ b = some (x, f, y, g)) : ∃ p1 p2 p3 p4 q1 q2 q3 q4, b = [.Assign [.Attribute (.Name x p1) f p2] (.List [] p3) p4, .Assign [.Attribute (.Name y q1) g q2] (.List [] q3) q4] := by
  unfold vInitQ at h
  split at h
  · cases h
    exact ⟨_, _, _, _, _, _, _, _, rfl⟩
  · cases h
def initQ (f g : Str) (st : Stmt) : Bool := simpleArgs (defArgs st) ["self"] && (scopeOk ["self"] ["self"] (defScope st) && (decide (vInitQ (defBody st) = some (("self" : Str), f, ("self" : Str), g)) && decide (f ≠ g)))
def spQ (C : Addr) (f g : Str) : Sp := fun vs H Q _ => ∃ x dx, vs = [.ref x] ∧ H x = some (.ins C dx []) ∧ ∀ p1 p2 H2, H p1 = none → H p2 = none → p1 ≠ p2 → H2 x = some (.ins C dx [(f, .ref p1), (g, .ref p2)]) → H2 p1 = some (.lst []) → H2 p2 = some (.lst []) → (∀ a o, a ≠ x → H a = some o → H2 a = some o) → Q .non H2
section
variable {P : Program} {w : World} {K : Fg} {mg : Str → Option Value} {base : Heap}
theorem initQ_fn {f g qual : Str} {st : Stmt} {C fI : Addr} {fd : FuncData} (F : Fun K "__init__" qual st fI fd) (hi : initQ f g st = true) (c : Cls K C) (n1 : NoAttr K C f) (n2 : NoAttr K C g) :
    FnOk P w K mg base (L2.CX P w) 1 fI fd ["self"] (spQ C f g) ∧ Binds K fd ["self"] [] := by
  unfold initQ at hi
  obtain ⟨h1, hi⟩ := and2 hi
  obtain ⟨h2, hi⟩ := and2 hi
  obtain ⟨h4, h5⟩ := and2 hi
  have nfg : f ≠ g := of_decide_eq_true h5
  have S := scope_ok h2
  obtain ⟨p1, p2, p3, p4, q1, q2, q3, q4, hbody⟩ := vInitQ_ok (of_decide_eq_true h4)
  constructor
  · refine F.okX S (fun vs H Q E h => ?_) fun cdv A outer s H vs Q E hr h => ?_
    · obtain ⟨x, dx, rfl, _⟩ := h
      rfl
    · have vis : Vis (defScope st) "self" := by
        rcases S.par "self" (by simp) with z | z
        · exact .inl z
        · exact .inr (.inl z)
      rw [hbody]
      have ev : ∀ {X : Cx} {p : Pos}, PE X (.List [] p) (tLst tNil) := fun {X p} => pe_lst pa_nil
      refine ⟨_, pss_cons (ps_fld (X := cxOf (L2.CX P w) P w K mg base ["self"] qual (defScope st) fI cdv A outer s H E) (pe_var (i := 0) rfl vis) ev rfl) (pss_one (ps_fld (pe_var (i := 0) rfl vis) ev rfl)), ?_⟩
      obtain ⟨x, dx, rfl, ex, k⟩ := h
      refine ⟨Nat.zero_le _, fun a1 ha1 => ⟨.ref x, rfl, x, C, dx, [], rfl, ?_, c, n1, by decide, ?_⟩⟩
      · rw [upd_ne (fun z => by subst z; rw [ex] at ha1; cases ha1)]; exact ex
      · refine ⟨Nat.zero_le _, fun a2 ha2 => ⟨.ref x, rfl, x, C, dx, [(f, .ref a1)], rfl, ?_, c, n2, by simp, ?_⟩⟩
        · rw [upd_ne (fun z => by subst z; rw [upd_same] at ha2; cases ha2), upd_same]
          rfl
        · have e1 : a1 ≠ x := fun z => by subst z; rw [ex] at ha1; cases ha1
          have e2 : a2 ≠ x := fun z => by subst z; rw [upd_same] at ha2; cases ha2
          rw [upd_ne e2] at ha2
          have e3 : a2 ≠ a1 := fun z => by subst z; rw [upd_same] at ha2; cases ha2
          rw [upd_ne e3] at ha2
          refine k a1 a2 _ ha1 ha2 e3.symm ?_ ?_ ?_ fun b o nb hb => ?_
          · rw [upd_same]
            simp [putF, nfg]
          · rw [upd_ne e1, upd_ne e3.symm, upd_ne e1, upd_same]
          · rw [upd_ne e2, upd_same]
          · have b1 : b ≠ a1 := fun z => by subst z; rw [ha1] at hb; cases hb
            have b2 : b ≠ a2 := fun z => by subst z; rw [ha2] at hb; cases hb
            rw [upd_ne nb, upd_ne b2, upd_ne nb, upd_ne b1]
            exact hb
  · unfold simpleArgs at h1
    obtain ⟨a1, h1⟩ := and2 h1
    obtain ⟨a2, h1⟩ := and2 h1
    obtain ⟨a3, h1⟩ := and2 h1
    obtain ⟨a4, h1⟩ := and2 h1
    obtain ⟨a5, a6⟩ := and2 h1
    have a6 : (defArgs st).args.map (·.arg) = [("self" : Str)] := of_decide_eq_true a6
    refine F.binds fun kV doc pm an cdv ct us hl => ?_
    exact bind_ok (ps := ["self"]) (us := us) (us' := us) (kw := []) (by simpa using a1) a6 (by simpa using a3) (by simpa using a2) (by simpa using a4) S.nd .nil (by intro y hy; cases hy) hl (by
      have hz : ([("self" : Str)].drop us.length = []) := List.drop_eq_nil_of_le (Nat.le_of_eq hl.symm)
      unfold kwSel
      rw [hz]
      simp)
/-- the class, by what the written part says of it -/
theorem cla_of {cn f g qual : Str} {st : Stmt} {C fI : Addr} {fd : FuncData} (hm : mg cn = some (.ref C)) (c : Cls K C) (n1 : NoAttr K C f) (n2 : NoAttr K C g) (M : Mk K C fI) (F : Fun K "__init__" qual st fI fd) (hi : initQ f g st = true) :
    ClA P w K mg base 2 cn [f, g] C := by
  refine ⟨hm, c, fun x hx => ?_, M.kp, f, g, rfl, fun X hp hw hk hg hb hr pins s σ H Q I h => ?_⟩
  · simp at hx
    rcases hx with rfl | rfl
    · exact n1
    · exact n2
  · subst hp hw hk hg hb
    obtain ⟨ok, bd⟩ := initQ_fn (P := X.prog) (w := X.w) (mg := X.mg) (base := X.base) F hi c n1 n2
    refine run_make (us := []) (vs := []) (dvs := []) (ds := []) M ok hr bd .nil (E := fun _ _ _ => False) (fun pins σ H s e s' I hq => by
      obtain ⟨_, _, _, _, _, _, _, _, _, _, _, _, z⟩ := hq
      exact z.elim) I .nil fun x dx hx hdx ne => ?_
    refine ⟨x, dx, rfl, upd_same, fun p1 p2 H2 g1 g2 g3 g4 g5 g6 g7 => ⟨rfl, h x p1 p2 H2 ⟨dx, hx, ?_, ?_, g3, g4, g5, g6, fun a o ha => ?_⟩⟩⟩
    · have z1 : p1 ≠ x := fun z => by subst z; rw [upd_same] at g1; cases g1
      rw [upd_ne z1] at g1
      have z2 : p1 ≠ dx := fun z => by subst z; rw [upd_same] at g1; cases g1
      rwa [upd_ne z2] at g1
    · have z1 : p2 ≠ x := fun z => by subst z; rw [upd_same] at g2; cases g2
      rw [upd_ne z1] at g2
      have z2 : p2 ≠ dx := fun z => by subst z; rw [upd_same] at g2; cases g2
      rwa [upd_ne z2] at g2
    · have z1 : a ≠ x := fun z => by subst z; rw [hx] at ha; cases ha
      have z2 : a ≠ dx := fun z => by subst z; rw [hdx] at ha; cases ha
      exact g7 a o z1 (by rw [upd_ne z1, upd_ne z2]; exact ha)
end
end Vc
end
section
set_option Elab.async false
set_option linter.all false
namespace Vc
open PySem PySem.Spec PyProof.Rows L2
variable [XrC]
/-- what a def has to do with objects: the attributes that are handed (the object's slot, the attribute, the class); the class, its own name and whether it is a property; the attributes' slots of objects that are made here; the slots that are made here -/
structure Ob where
  gs : List (Nat × Str × Str)
  ql : Option (Str × Str × Bool)
  lo : List (Nat × Nat × Str × Str)
  nw : List Nat
def Ob.no : Ob := ⟨[], none, [], []⟩
/-- a def as the check takes it -/
structure Rc where
  id : Nat
  x : Str
  st : Stmt
  N : List Str
  md : List Md
  body : Sms
  ob : Ob
def Rc.np (r : Rc) : Nat := r.md.length - r.ob.gs.length
def Rc.ps (r : Rc) : List Str := r.N.take r.np
def Rc.gq (r : Rc) : List (Nat × Nat × Str × Str) := r.ob.gs.zipIdx.map fun p => (r.np + p.2, p.1.1, p.1.2.1, p.1.2.2)
def Rc.plain (r : Rc) : Bool := r.ob.gs.isEmpty
def Rc.qn (r : Rc) : QN := match r.ob.ql with
  | none => .fn r.x
  | some (cn, _, false) => .mt cn r.x
  | some (cn, _, true) => .pr cn r.x
def Rc.qual (r : Rc) : Str := match r.ob.ql with
  | none => r.x
  | some (_, q, _) => q
def Rc.df (r : Rc) : Df := ⟨r.md, r.N.length, r.body⟩
def getR (Tb : List Rc) (f : Nat) : Option Rc := Tb.find? fun r => r.id == f
def tabT (Tb : List Rc) (f : Nat) : Option Df := (getR Tb f).map Rc.df
def msOf (T : Nat → Option Df) (f : Nat) : List Md := match T f with
  | some d => d.md
  | none => []
def Rc.gh (r : Rc) : List (Nat × Nat × Str × Str) := r.gq ++ r.ob.lo
def Rc.cc (Tb : List Rc) (con : List (Str × D)) (xs : List (Str × XI)) (ci : List (Str × List Str)) (r : Rc) : Cc where
  sc := defScope r.st
  os := defScope r.st
  N := r.N
  pr := prsFrom 0 r.md ++ ((r.gh.map (·.1) ++ r.gh.map (·.2.1)) ++ r.ob.nw)
  con := con
  defs := (Tb.filter Rc.plain).map fun r => (r.x, r.id)
  ps := fun f => match getR Tb f with
    | some r => r.ps
    | none => []
  md := msOf (tabT Tb)
  xs := xs
  top := true
  gh := r.gh
  nw := r.ob.nw
  ci := ci
  qd := Tb.map fun r => (r.qn, r.id)
  gq := fun f => match getR Tb f with
    | some r => r.gq
    | none => []
def chkOb (r : Rc) : Bool := decide (r.ob.gs.length ≤ r.md.length ∧ (r.plain = true → r.ob.ql = none)) && (r.ob.nw.all (fun i => decide (r.md.length ≤ i)) && r.ob.lo.all fun q => decide (r.md.length ≤ q.1))
def chkDef (Tb : List Rc) (con : List (Str × D)) (xs : List (Str × XI)) (ci : List (Str × List Str)) (r : Rc) : Bool := decide (r.md.length ≤ r.N.length) && (simpleArgs (defArgs r.st) r.ps && (scopeOk r.N r.ps (defScope r.st) && (chkSs r.body (r.cc Tb con xs ci) (defBody r.st) && chkOb r)))
def ConOk (K : Fg) (w : World) (mg : Str → Option Value) (con : List (Str × D)) : Prop := ∀ x d, con.lookup x = some d → ConAt K w mg x d
def chkTab (Tb : List Rc) (con : List (Str × D)) (xs : List (Str × XI)) (ci : List (Str × List Str)) : Bool := decide (Tb.map (·.id)).Nodup && Tb.all (chkDef Tb con xs ci)
theorem getR_of : ∀ {Tb : List Rc} {r : Rc}, (Tb.map (·.id)).Nodup → r ∈ Tb → getR Tb r.id = some r
  | a :: Tb, r, nd, h => by
    have nd' : a.id ∉ Tb.map (·.id) ∧ (Tb.map (·.id)).Nodup := List.nodup_cons.mp nd
    unfold getR
    rw [List.find?_cons]
    rcases List.mem_cons.mp h with e | e
    · subst e; simp
    · have : a.id ≠ r.id := fun z => nd'.1 (z ▸ List.mem_map_of_mem e)
      rw [show (a.id == r.id) = false by simpa using this]
      exact getR_of nd'.2 e
theorem defs_lookup0 : ∀ {Tb : List Rc} {x : Str} {f : Nat}, (Tb.map fun r => (r.x, r.id)).lookup x = some f → ∃ r ∈ Tb, r.x = x ∧ r.id = f
  | [], _, _, h => by cases h
  | a :: Tb, x, f, h => by
    rw [List.map_cons, List.lookup_cons] at h
    split at h
    · rename_i hx
      cases h
      exact ⟨a, List.mem_cons_self, (beq_iff_eq.mp hx).symm, rfl⟩
    · obtain ⟨r, h1, h2⟩ := defs_lookup0 h
      exact ⟨r, List.mem_cons_of_mem _ h1, h2⟩
theorem defs_lookup {Tb : List Rc} {x : Str} {f : Nat} (h : ((Tb.filter Rc.plain).map fun r => (r.x, r.id)).lookup x = some f) : ∃ r ∈ Tb, r.plain = true ∧ r.x = x ∧ r.id = f := by
  obtain ⟨r, h1, h2, h3⟩ := defs_lookup0 h
  exact ⟨r, (List.mem_filter.mp h1).1, (List.mem_filter.mp h1).2, h2, h3⟩
theorem wipG_at : ∀ {g : List (Nat × Nat × Str × Str)} {τ : L2.St} {i : Nat}, (wipG g τ)[i]? = if i ∈ g.map (·.1) ∧ i < τ.length then some none else τ[i]?
  | [], _, _ => by simp [wipG]
  | q :: r, τ, i => by
    rw [wipG, List.getElem?_set, wipG_at (g := r), wipG_len]
    by_cases h : q.1 = i
    · subst h
      by_cases hl : q.1 < τ.length
      · simp [hl]
      · simp [hl, List.getElem?_eq_none (Nat.le_of_not_lt hl)]
    · rw [if_neg h]
      have : (i ∈ (q :: r).map (·.1)) ↔ i ∈ r.map (·.1) := by
        rw [List.map_cons, List.mem_cons]
        exact ⟨fun z => z.resolve_left (Ne.symm h), .inr⟩
      simp only [this]
theorem start_i {N : List Str} {vs : List V} {i : Nat} : (L2.start N vs)[i]? = if i < vs.length then some vs[i]? else if i < N.length then some none else none := by
  unfold L2.start
  rw [List.getElem?_append]
  by_cases h : i < vs.length
  · simp [h]
  · simp only [List.length_map, h, if_false, List.getElem?_replicate]
    by_cases h2 : i < N.length
    · rw [if_pos (by omega), if_pos h2]
    · rw [if_neg (by omega), if_neg h2]
theorem gq_fst {r : Rc} : r.gq.map (·.1) = List.range' r.np r.ob.gs.length := by
  unfold Rc.gq
  rw [List.map_map]
  have : ∀ (l : List (Nat × Str × Str)) (n k : Nat), (l.zipIdx k).map ((fun q : Nat × Nat × Str × Str => q.1) ∘ fun p => (n + p.2, p.1.1, p.1.2.1, p.1.2.2)) = List.range' (n + k) l.length := by
    intro l
    induction l with
    | nil => intro n k; rfl
    | cons a l ih =>
      intro n k
      rw [List.zipIdx_cons, List.map_cons, ih, List.length_cons, List.range'_succ]
      rfl
  simpa using this r.ob.gs r.np 0
theorem gq_len {r : Rc} : r.gq.length = r.ob.gs.length := by unfold Rc.gq; simp
theorem start_base {r : Rc} {vs gs : List V} (h1 : vs.length = r.np) (h2 : gs.length = r.ob.gs.length) (h3 : r.np + r.ob.gs.length ≤ r.N.length) (h4 : ∀ q ∈ r.ob.lo, r.np + r.ob.gs.length ≤ q.1) : wipG r.gh (L2.start r.N (vs ++ gs)) = L2.start r.N vs := by
  refine List.ext_getElem? fun i => ?_
  have hl : (L2.start r.N (vs ++ gs)).length = r.N.length := by simp [L2.start]; omega
  rw [wipG_at, hl, start_i, start_i, List.length_append]
  have hm : i ∈ r.gh.map (·.1) ↔ (r.np ≤ i ∧ i < r.np + r.ob.gs.length) ∨ i ∈ r.ob.lo.map (·.1) := by
    unfold Rc.gh
    rw [List.map_append, List.mem_append, gq_fst, List.mem_range'_1]
  by_cases a : i < vs.length
  · have : ¬ i ∈ r.gh.map (·.1) := by
      rw [hm]
      rintro (z | z)
      · omega
      · obtain ⟨q, hq, rfl⟩ := List.mem_map.mp z
        have := h4 q hq
        omega
    rw [if_neg (fun z => this z.1), if_pos (by omega), if_pos a, List.getElem?_append_left a]
  · rw [if_neg a]
    by_cases b : i < r.np + r.ob.gs.length
    · have : i ∈ r.gh.map (·.1) := hm.mpr (.inl ⟨by omega, b⟩)
      rw [if_pos ⟨this, by omega⟩, if_pos (by omega)]
    · rw [if_neg (c := i < vs.length + gs.length) (by omega)]
      split
      · rename_i z
        rw [if_pos z.2]
      · rfl
section
variable {P : Program} {w : World} {K : Fg} {mg : Str → Option Value} {base : Heap} {xs : List (Str × XI)}
theorem fnG_plain {fl : Str → List Str} {Φ : Ph} {k : Nat} {ps : List Str} {f : Nat} {fa : Addr} (F : FnQ P w K mg base (xrOf K mg xs) fl Φ k [] ps f fa) : FnG P w K mg base (xrOf K mg xs) Φ k ps f fa :=
  ⟨F.keep, fun A outer s H us us' kw vs Q E hr hg e0 n1 n2 n3 n4 rv rc => F.run A outer s H us us' kw vs Q E hr hg e0 n1 n2 n3 n4 rv (by
    obtain ⟨S, as, h1, h2⟩ := rc
    refine ⟨S, as, [], rfl, (fun q hq => by cases hq), by rw [List.append_nil]; exact h1, ?_⟩
    rw [List.append_nil]
    exact h2)⟩
theorem fnQ_of {Φ Φ' : Ph} {k : Nat} {Tb : List Rc} {con : List (Str × D)} {ci : List (Str × List Str)} {r : Rc} {fa : Addr} {fd : FuncData} (F : Fun K r.x r.qual r.st fa fd) (hc : chkDef Tb con xs ci r = true) (hx : XOk P w K mg base xs) (hX : XrC.xr = xrOf K mg xs) (nd : (Tb.map (·.id)).Nodup)
    (hΦ : ∀ as, Φ' r.id as = runDf Φ (msOf (tabT Tb)) r.df as) (hb : ∀ x ∈ bltNames, mg x = none) (hcon : ConOk K w mg con) (hcl : ∀ cn fs, ci.lookup cn = some fs → ∃ C, ClA P w K mg base 2 cn fs C)
    (hall : ∀ r' ∈ Tb, r'.plain = true → r'.ob.ql = none) (hfn : ∀ r' ∈ Tb, ∃ fa, QAt K mg r'.qn fa ∧ FnQ P w K mg base (xrOf K mg xs) (fun x => (ci.lookup x).getD []) Φ (k + 2) r'.gq r'.ps r'.id fa) :
    FnQ P w K mg base (xrOf K mg xs) (fun x => (ci.lookup x).getD []) Φ' (k + 4) r.gq r.ps r.id fa := by
  unfold chkDef at hc
  obtain ⟨c1, hc⟩ := and2 hc
  obtain ⟨c2, hc⟩ := and2 hc
  obtain ⟨c3, hc⟩ := and2 hc
  obtain ⟨c4, c5⟩ := and2 hc
  unfold chkOb at c5
  obtain ⟨c5, c6⟩ := and2 c5
  obtain ⟨c6, c7⟩ := and2 c6
  have c6 : ∀ i ∈ r.ob.nw, r.md.length ≤ i := fun i hi => of_decide_eq_true (List.all_eq_true.mp c6 i hi)
  have c7 : ∀ q ∈ r.ob.lo, r.md.length ≤ q.1 := fun i hi => of_decide_eq_true (List.all_eq_true.mp c7 i hi)
  have hgl : r.ob.gs.length ≤ r.md.length := (of_decide_eq_true c5).1
  have hN : r.md.length ≤ r.N.length := of_decide_eq_true c1
  have hnp : r.np + r.ob.gs.length = r.md.length := by unfold Rc.np; omega
  have S := scope_ok c3
  have hps : r.ps.length = r.np := by unfold Rc.ps; rw [List.length_take]; omega
  unfold simpleArgs at c2
  obtain ⟨a1, c2⟩ := and2 c2
  obtain ⟨a2, c2⟩ := and2 c2
  obtain ⟨a3, c2⟩ := and2 c2
  obtain ⟨a4, c2⟩ := and2 c2
  obtain ⟨a5, a6⟩ := and2 c2
  have a6 : (defArgs r.st).args.map (·.arg) = r.ps := of_decide_eq_true a6
  refine ⟨F.kp, fun A outer s H us us' kw vs Q E hr hg e0 n1 n2 n3 n4 rv rc => ?_⟩
  obtain ⟨_, _, kV, doc, pm, an, cdv, ct, _, rfl, look, code⟩ := F.ex
  have hl : vs.length = r.ps.length := by rw [rv.length]; exact n3
  have same : ∀ (b : Addr) (o : Obj), base.get? b = some o → s.heap.get? b = some o := fun b o e => (e0.bs b o e).1
  have written := e0.mod.kin.keeps same
  have free := e0.mod.nolimit.keeps same
  have ndP : r.ps.Nodup := S.nd.sublist (List.take_sublist _ _)
  have slot : ∀ y ∈ r.ps.zip us', (defScope r.st).names.lookup y.1 = some .local ∨ ((defScope r.st).names.lookup y.1 = some .cell ∧ ((cellsFrom (s.heap.objs.size + 1) (defScope r.st).names []).lookup y.1).isSome = true) := by
    intro y hy
    have par := S.par y.1 (List.of_mem_zip (show (y.1, y.2) ∈ _ from hy)).1
    exact par.imp_right fun c => ⟨c, PySem.W.cellsFrom_some _ _ _ (.inl c)⟩
  have bnd : bindArgs (PySem.W.fnOf r.x r.qual (defArgs r.st) (defBody r.st) (defScope r.st) .none kV doc pm an cdv ct) ⟨us, kw⟩ = pure (r.ps.zip us') :=
    bind_ok (by simpa using a1) a6 (by simpa using a3) (by simpa using a2) (by simpa using a4) ndP n1 n2 n3 n4
  refine codeAny_call_function hr.depth (written _ _ look) rfl S.co S.gen rfl (PySem.W.codeRec_of written code) (BindsTo.of_eq bnd _ _ _ _ (wpAny_newFunctionEnv_cells S.kind slot ?_))
  rintro _ rfl s1 x
  refine ⟨free.keeps x.toInCall.keep, ?_⟩
  refine codeAny_func ?_
  have I : Inv (cxOf (L2.CX P w) P w K mg base r.N r.qual (defScope r.st) fa cdv A outer s H E) [] (L2.start r.N vs) H s1 := inv_start S hr.hd e0 hl rv x
  have gp : ∀ q ∈ r.gh, q.1 ∈ (r.cc Tb con xs ci).pr ∧ q.2.1 ∈ (r.cc Tb con xs ci).pr := fun q hq => by
    have z1 : q.1 ∈ r.gh.map (·.1) := List.mem_map_of_mem hq
    have z2 : q.2.1 ∈ r.gh.map (·.2.1) := List.mem_map.mpr ⟨q, hq, rfl⟩
    exact ⟨List.mem_append_right _ (List.mem_append_left _ (List.mem_append_left _ z1)), List.mem_append_right _ (List.mem_append_left _ (List.mem_append_right _ z2))⟩
  have fit : Fit (cxOf (L2.CX P w) P w K mg base r.N r.qual (defScope r.st) fa cdv A outer s H E) (r.cc Tb con xs ci) ⟨K, fun cls d _ H => E cls d H, xrOf K mg xs, r.gh, mg, fun x => (ci.lookup x).getD [], r.ob.nw⟩ Φ := by
    refine ⟨rfl, rfl, S.nd, rfl, rfl, takes_of rfl rfl rfl rfl, ?_, ?_, hb, hcon, fun y f hy => ?_, fun _ _ _ => .inl rfl, passes_of rfl, hx, rfl, (hr.deeper _).mono (by omega), fun _ => ⟨rfl, rfl⟩, hX, rfl, rfl, gp, rfl, rfl, fun cn fs hcf => ?_, fun n f hnf => ?_⟩
    · have q := (hr.deeper (envOfC r.qual (defScope r.st) s.heap.objs.size fa cdv)).un
      show (A.deeper _).units + 200 < _
      omega
    · exact hg
    · obtain ⟨r', m, hp, rfl, rfl⟩ := defs_lookup hy
      obtain ⟨fa', h1, h2⟩ := hfn r' m
      have hq : r'.qn = .fn r'.x := by unfold Rc.qn; rw [hall r' m hp]
      rw [hq] at h1
      have hgq : r'.gq = [] := by unfold Rc.plain at hp; unfold Rc.gq; rw [List.isEmpty_iff.mp hp]; rfl
      rw [hgq] at h2
      refine ⟨fa', k + 2, h1, (hr.deeper _).mono (by omega), ?_⟩
      show FnG P w K mg base (xrOf K mg xs) Φ (k + 2) (match getR Tb r'.id with
        | some r => r.ps
        | none => []) r'.id fa'
      rw [getR_of nd m]
      exact fnG_plain h2
    · obtain ⟨C, h⟩ := hcl cn fs hcf
      exact ⟨C, 2, (hr.deeper _).mono (by omega), h⟩
    · obtain ⟨r', m, e⟩ := List.mem_map.mp hnf
      cases e
      obtain ⟨fa', h1, h2⟩ := hfn r' m
      refine ⟨fa', k + 2, h1, hr.deeper _, ?_⟩
      show FnQ P w K mg base (xrOf K mg xs) (fun x => (ci.lookup x).getD []) Φ (k + 2) (match getR Tb r'.id with
        | some r => r.gq
        | none => []) (match getR Tb r'.id with
        | some r => r.ps
        | none => []) r'.id fa'
      rw [getR_of nd m]
      exact h2
  obtain ⟨S0, as, gs, lgs, lkv, rel, k0⟩ := rc
  rw [gq_len] at lgs
  rw [hΦ] at k0
  have hasl : as.length = (vs ++ gs).length := by simpa using rel.len
  have hvg : (vs ++ gs).length = r.md.length := by rw [List.length_append, hl, hps, lgs, hnp]
  have hmd : r.md.length = as.length := by omega
  have sb : wipG r.gh (L2.start r.N (vs ++ gs)) = L2.start r.N vs := start_base (by rw [hl, hps]) lgs (by omega) fun q hq => by rw [hnp]; exact c7 q hq
  have hp : ∀ i : Nat, r.md[i]? = some .m → i ∈ (r.cc Tb con xs ci).pr ∧ i ∉ r.ob.nw := fun i hi => by
    refine ⟨List.mem_append_left _ (by simpa using prs_mem (n := 0) hi), fun z => ?_⟩
    have h1 := c6 i z
    have h2 := (List.getElem?_eq_some_iff.mp hi).1
    omega
  cases hi : inits r.md as with
  | none =>
    have : runDf Φ (msOf (tabT Tb)) r.df as = .st := by unfold runDf; rw [show r.df.md = r.md from rfl, hi]
    rw [this] at k0
    exact k0.elim
  | some e =>
    obtain ⟨rfl, _⟩ := inits_len hi
    have hrun : runDf Φ (msOf (tabT Tb)) r.df as = endR r.md (exSs Φ (msOf (tabT Tb)) r.body (pad r.N.length r.md (as.map slOf))) := by
      unfold runDf
      rw [show r.df.md = r.md from rfl, hi]
      rfl
    rw [hrun] at k0
    have hst : (L2.start r.N (vs ++ gs)).length = r.N.length := by
      simp [L2.start]
      simp at hvg
      omega
    have rel0 : Rel K S0 H (L2.start r.N (vs ++ gs)) (pad r.N.length r.md (as.map slOf)) := rel_start rel (by rw [List.length_map]; omega) hN
    have lk0 : Lk ⟨K, fun cls d _ H => E cls d H, xrOf K mg xs, r.gh, mg, fun x => (ci.lookup x).getD [], r.ob.nw⟩ (L2.start r.N (vs ++ gs)) S0 := by
      intro q hq v hv
      have hv := start_get hv
      rcases List.mem_append.mp (show q ∈ r.gq ++ r.ob.lo from hq) with hq | hq
      · obtain ⟨p, C, dx, fs, z1, z2, z3⟩ := lkv q hq v (some_get.mpr hv)
        exact ⟨p, C, dx, fs, z1, start_at (some_get.mp z2), z3⟩
      · have h1 := c7 q hq
        have h2 := (List.getElem?_eq_some_iff.mp hv).1
        omega
    have body := soundSs (Φ := Φ) r.body fit c4
    have hD : tS ⟨K, fun cls d _ H => E cls d H, xrOf K mg xs, r.gh, mg, fun x => (ci.lookup x).getD [], r.ob.nw⟩ (r.cc Tb con xs ci).pr (exSs Φ (r.cc Tb con xs ci).md r.body) { nx := fun _ H' => Q .non H', rt := Q } (L2.start r.N vs) H := by
      refine ⟨L2.start r.N (vs ++ gs), sb, S0, _, rel0, lk0, ?_⟩
      show PO ⟨K, fun cls d _ H => E cls d H, xrOf K mg xs, r.gh, mg, fun x => (ci.lookup x).getD [], r.ob.nw⟩ (r.cc Tb con xs ci).pr S0 H _ _ _ (exSs Φ (msOf (tabT Tb)) r.body (pad r.N.length r.md (as.map slOf)))
      generalize exSs Φ (msOf (tabT Tb)) r.body (pad r.N.length r.md (as.map slOf)) = o at k0
      cases o with
      | st => exact k0
      | bk e1 => exact k0.elim
      | ct e1 => exact k0.elim
      | nx e1 =>
        by_cases hf : finL r.md e1 = true
        · simp only [endR, hf, if_true] at k0
          exact fun σ' S' H' g => k0 .non S' H' (fin_grow hi hasl hmd hp g hf hN hst) .non
        · simp only [endR, hf] at k0
          exact k0.elim
      | ex xn e1 =>
        by_cases hf : finL r.md e1 = true
        · simp only [endR, hf, if_true] at k0
          exact fun cls d σ' S' H' g q => k0 cls d S' H' (fin_grow hi hasl hmd hp g hf hN hst) q
        · simp only [endR, hf] at k0
          exact k0.elim
      | rt rr e1 =>
        by_cases hf : finL r.md e1 = true
        · simp only [endR, hf, if_true] at k0
          cases ho : outR r.md e1 rr with
          | none => rw [ho] at k0; exact k0.elim
          | some c =>
            rw [ho] at k0
            exact fun x σ' S' H' g p fr => k0 x S' H' (fin_grow hi hasl hmd hp g hf hN hst) (fin_res hi hp g hf hN hst p fr ho)
        · simp only [endR, hf] at k0
          exact k0.elim
    refine wpAny_mono (body.run [] s1 (L2.start r.N vs) H _ I hD) ?_ fun _ _ z => z
    -- what is given back lies as the caller wants it
    have out : ∀ (σ' : L2.St) (H' : Hp) (v : V) (u : Value) (s' : Shared), Inv (cxOf (L2.CX P w) P w K mg base r.N r.qual (defScope r.st) fa cdv A outer s H E) [] σ' H' s' → RelV v u → Q v H' → CE outer P w H s Q u s' :=
      fun _ H' v _ _ J rv q => ⟨v, H', J.os, J.bare, J.base, J.hok, rv, q⟩
    rintro (_ | _ | _ | u) s' z
    · obtain ⟨σ', H', J, q⟩ := z
      exact out σ' H' .non .none s' J rfl q
    · obtain ⟨_, _, _, q⟩ := z; exact q.elim
    · obtain ⟨_, _, _, q⟩ := z; exact q.elim
    · obtain ⟨v, σ', H', J, rv, q⟩ := z
      exact out σ' H' v u s' J rv q
theorem tab_fnQ {Tb : List Rc} {con : List (Str × D)} {ci : List (Str × List Str)} (hX : XrC.xr = xrOf K mg xs) (hk : chkTab Tb con xs ci = true) (hx : XOk P w K mg base xs) (hb : ∀ x ∈ bltNames, mg x = none) (hcon : ConOk K w mg con) (hcl : ∀ cn fs, ci.lookup cn = some fs → ∃ C, ClA P w K mg base 2 cn fs C)
    (hf : ∀ r ∈ Tb, ∃ fa fd, QAt K mg r.qn fa ∧ Fun K r.x r.qual r.st fa fd) :
    ∀ (n : Nat) (r : Rc), r ∈ Tb → ∃ fa, QAt K mg r.qn fa ∧ FnQ P w K mg base (xrOf K mg xs) (fun x => (ci.lookup x).getD []) (run (tabT Tb) (msOf (tabT Tb)) n) (2 * n + 2) r.gq r.ps r.id fa
  | 0, r, hr => by
    obtain ⟨fa, fd, h1, F⟩ := hf r hr
    refine ⟨fa, h1, F.kp, fun A outer s H us us' kw vs Q E _ _ _ _ _ _ _ _ rc => ?_⟩
    obtain ⟨S0, as, gs, _, _, rel, k0⟩ := rc
    exact (show False from k0).elim
  | n + 1, r, hr => by
    obtain ⟨nd, h2⟩ := and2 hk
    have nd := of_decide_eq_true nd
    obtain ⟨fa, fd, h1, F⟩ := hf r hr
    refine ⟨fa, h1, ?_⟩
    rw [show 2 * (n + 1) + 2 = 2 * n + 4 by omega]
    refine fnQ_of (Φ := run (tabT Tb) (msOf (tabT Tb)) n) F (List.all_eq_true.mp h2 r hr) hx hX nd (fun as => ?_) hb hcon hcl (fun r' hr' hp => ?_) fun r' hr' => ?_
    · show (match tabT Tb r.id with
        | none => CO.st
        | some d => runDf (run (tabT Tb) (msOf (tabT Tb)) n) (msOf (tabT Tb)) d as) = _
      unfold tabT
      rw [getR_of nd hr]
      rfl
    · have h3 := List.all_eq_true.mp h2 r' hr'
      unfold chkDef at h3
      have h4 := (and2 (and2 (and2 (and2 h3).2).2).2).2
      unfold chkOb at h4
      exact (of_decide_eq_true (and2 h4).1).2 hp
    · exact tab_fnQ hX hk hx hb hcon hcl hf n r' hr'
theorem tab_fn {Tb : List Rc} {con : List (Str × D)} {ci : List (Str × List Str)} (hX : XrC.xr = xrOf K mg xs) (hk : chkTab Tb con xs ci = true) (hx : XOk P w K mg base xs) (hb : ∀ x ∈ bltNames, mg x = none) (hcon : ConOk K w mg con) (hcl : ∀ cn fs, ci.lookup cn = some fs → ∃ C, ClA P w K mg base 2 cn fs C)
    (hf : ∀ r ∈ Tb, ∃ fa fd, QAt K mg r.qn fa ∧ Fun K r.x r.qual r.st fa fd) (n : Nat) (r : Rc) (fa : Addr) (hr : r ∈ Tb) (ho : r.ob = .no) (hm : mg r.x = some (.ref fa)) : FnG P w K mg base (xrOf K mg xs) (run (tabT Tb) (msOf (tabT Tb)) n) (2 * n + 2) r.ps r.id fa := by
  obtain ⟨fa', h1, h2⟩ := tab_fnQ hX hk hx hb hcon hcl hf n r hr
  have hq : r.qn = .fn r.x := by unfold Rc.qn; rw [ho]; rfl
  have hg : r.gq = [] := by unfold Rc.gq; rw [ho]; rfl
  rw [hq] at h1
  have h1 : mg r.x = some (.ref fa') := h1
  rw [hm] at h1; cases h1
  rw [hg] at h2
  exact fnG_plain h2
end
end Vc
end
section
set_option Elab.async false
set_option linter.all false
namespace Vc
open PySem PySem.Spec PyProof.Rows L2
variable [XrC]
theorem rpa_ints (K : Fg) (S : Hp) : ∀ ns : List Int, RpA K S (ns.map V.int) (ns.map PyData.int)
  | [] => .nil
  | n :: r => .cons (.int n) (rpa_ints K S r)
/-- a heap of which at most the script at a is told, and that for good -/
structure Lone (H : Hp) (a : Addr) : Prop where
  one : ∀ b u, H b = some u → b = a
  frz : ∀ b u, H b = some u → ∃ o xs, u = HO.frz o (.lst xs)
section
variable {h : Heap} {H : Hp} {a : Addr} {xs : Array Value}
/-- what is no list of its own is not told -/
theorem Lone.off (L : Lone H a) {b : Addr} (n : b ≠ a) : H b = none := by
  cases hb : H b with
  | none => rfl
  | some u => exact (n (L.one b u hb)).elim
theorem Lone.dict (L : Lone H a) (ha : h.get? a = some { cls := .type "list", data := .seq xs }) {b : Addr} {o : Obj} {es : Array DictEntry} {n : Nat} (hb : h.get? b = some o) (hd : o.data = .dict es n) : H b = none :=
  L.off fun e => by
    rw [e, ha] at hb
    rw [← Option.some.inj hb] at hd
    cases hd
theorem Lone.ns (L : Lone H a) (ha : h.get? a = some { cls := .type "list", data := .seq xs }) {b : Addr} {m : Str → Option Value} (q : h.Ns b m) : (hidT h H).Ns b m := by
  obtain ⟨o, es, n, q1, q2, q3⟩ := q
  exact ⟨o, es, n, hidT_get q1 (L.dict ha q1 q2), q2, q3⟩
theorem Lone.mod {K : Fg} {mg mb : Str → Option Value} (L : Lone H a) (ha : h.get? a = some { cls := .type "list", data := .seq xs }) (hK : K.In h) (own : ∀ u, H a = some u → K.lookup a = none) (g : h.Ns mainGlobals mg) (b : h.Ns builtinsNs mb)
    (bb : ∀ x : Str, x ≠ "__name__" → mb x = bootBuiltins x) (nl : h.NoLimit) : K.In (hidT h H) ∧ Mod K mg (hidT h H) := by
  have kin : K.In (hidT h H) := fun c o hc => by
    refine hidT_get (hK c o hc) ?_
    cases hu : H c with
    | none => rfl
    | some u =>
      have ea := L.one c u hu
      rw [ea] at hu hc
      rw [own u hu] at hc
      cases hc
  obtain ⟨ml, l1, l2⟩ := nl
  exact ⟨kin, kin, L.ns ha g, ⟨mb, L.ns ha b, bb⟩, ⟨ml, L.ns ha l1, l2⟩⟩
end
section
variable {P : Program} {w : World} {K : Fg} {mg mb : Str → Option Value} {xr : Hp → Hp → Xn → Value → Option Addr → Prop}
/-- how a law's call ends well -/
abbrev Well (s₁ : Shared) : Result → Shared → Prop := fun r s' => r = .ok (.ret (.bool true)) ∧ OldK s₁.heap s'.heap ∧ s'.os = s₁.os ∧ AllBare s'.gens
/-- over a told heap -/
theorem lone_call {Φ : Ph} {f k : Nat} {fa a : Addr} {s₁ : Shared} {H : Hp} {ns : List Int} {fs : List Sl} {xs : Array Value} (L : Lone H a) (ha : s₁.heap.get? a = some { cls := .type "list", data := .seq xs }) (hg : s₁.gens = #[])
    (md : Mod K mg (hidT s₁.heap H)) (ok : HOk P w H s₁.heap) (sq : SqL K H a (ns.map V.int)) (room : Room k callerA) (F : FnG P w K mg (hidT s₁.heap H) xr Φ k ["script"] f fa) (hΦ : Φ f [.f (ns.map .int)] = .rt (.v (.bool true)) fs) :
    codeAny (model P w) callerA (.call (.ref fa) ⟨[.ref a], []⟩) (Well s₁) s₁ := by
  have sl : Rel K H H [some (V.ref a)] [Sl.f (ns.map .int)] := by
    constructor
    · exact Sub.rfl'
    · rfl
    · intro i d q; rcases i with _ | i <;> cases q
    · intro i d q; rcases i with _ | i <;> cases q
    · intro i j b d d' q; rcases i with _ | i <;> cases q
    · intro i d q
      rcases i with _ | i
      · cases q
        exact ⟨a, _, rfl, sq, rpa_ints K H ns⟩
      · cases q
    · intro i x q; rcases i with _ | i <;> cases q
  have env : Env0 P w K mg (hidT s₁.heap H) callerA [] s₁ H := by
    refine ⟨rfl, md, fun _ _ e => of_hidT e, Nat.le_of_eq (hidT_size _ _), trivial, ?_, ok, .of_eq hg⟩
    intro b hb
    cases hb
  have done := F.run callerA [] s₁ H [.ref a] [.ref a] [] [.ref a] (fun v _ => v = .bl true) (fun _ _ _ => False) room rfl env .nil (by intro y hy; cases hy) rfl rfl (.cons rfl .nil) ⟨H, [.f (ns.map .int)], sl, by
    rw [hΦ]
    intro x S' H' _ (q : Rp K S' x (.bool true))
    cases q
    rfl⟩
  refine codeAny_mono done ?_
  rintro (e | fl) s' q
  · obtain ⟨_, _, _, _, _, _, _, _, _, _, _, _, z⟩ := q
    exact z.elim
  · rcases fl with _ | _ | _ | u <;> try exact q.elim
    obtain ⟨v, H', q1, q2, q3, q4, q5, (q6 : v = .bl true)⟩ := q
    rw [q6] at q5
    refine ⟨congrArg (fun z => Except.ok (Flow.ret z)) q5, OldK.of_keep fun b o hb => ?_, q1, q2⟩
    cases hu : H b with
    | none =>
      refine q3.keep b o hb hu (fun z => ?_) (by simp)
      cases z
    | some u =>
      obtain ⟨ob, ys, rfl⟩ := L.frz b u hu
      have z1 := (ok b _ hu).1
      have z2 := (q4 b _ (q3.frzs b ob _ hu)).1
      rw [hb] at z1
      rw [z2, Option.some.inj z1]
theorem law_callG {Φ : Ph} {f k : Nat} {fa a : Addr} {s₁ : Shared} {vs : List Value} {ns : List Int} {fs : List Sl}
    (hK : K.In s₁.heap) (g : s₁.heap.Ns mainGlobals mg) (b : s₁.heap.Ns builtinsNs mb) (bb : ∀ x : Str, x ≠ "__name__" → mb x = bootBuiltins x) (nl : s₁.heap.NoLimit) (hg : s₁.gens = #[])
    (ha : s₁.heap.get? a = some { cls := .type "list", data := .seq vs.toArray }) (hi : IntsAre vs ns) (hl : ns.length ≤ sizeLine) (room : Room k callerA)
    (F : ∀ base : Heap, K.In base → base.Ns mainGlobals mg → FnG P w K mg base xr Φ k ["script"] f fa) (hΦ : Φ f [.f (ns.map .int)] = .rt (.v (.bool true)) fs) :
    codeAny (model P w) callerA (.call (.ref fa) ⟨[.ref a], []⟩) (Well s₁) s₁ := by
  have hv := vals_ints hi
  have hn := hi.length
  rcases hk : K.lookup a with _ | o
  · -- a list of the caller's: told, for good
    have told : ∀ c u, (if c = a then some (HO.frz { cls := .type "list", data := .seq vs.toArray } (.lst (ns.map V.int))) else none) = some u → c = a ∧ u = HO.frz { cls := .type "list", data := .seq vs.toArray } (.lst (ns.map V.int)) := by
      intro c u q
      by_cases hc : c = a
      · rw [if_pos hc] at q
        exact ⟨hc, (Option.some.inj q).symm⟩
      · rw [if_neg hc] at q
        cases q
    have L : Lone (fun c => if c = a then some (HO.frz { cls := .type "list", data := .seq vs.toArray } (.lst (ns.map V.int))) else none) a := ⟨fun c u q => (told c u q).1, fun c u q => ⟨_, _, (told c u q).2⟩⟩
    obtain ⟨m1, m2⟩ := L.mod ha hK (fun _ _ => hk) g b bb nl
    refine lone_call L ha hg m2 (fun c u q => ?_) (.inl (.inr ⟨_, if_pos rfl⟩)) room (F _ m1 (L.ns ha g)) hΦ
    obtain ⟨rfl, rfl⟩ := told c u q
    exact ⟨ha, by simpa using hl, vs, _, hv, ha⟩
  · -- one of the module's own
    have L : Lone (fun _ => none) a := ⟨(by intro c u q; cases q), (by intro c u q; cases q)⟩
    have ho := hK a o hk
    rw [ha] at ho
    cases ho
    obtain ⟨m1, m2⟩ := L.mod ha hK (by intro u q; cases q) g b bb nl
    refine lone_call L ha hg m2 (by intro c u q; cases q) (.inr ⟨_, vs.toArray, _, hk, rfl, rfl, rfl, ?_, by simpa using hv⟩) room (F _ m1 (L.ns ha g)) hΦ
    rw [List.size_toArray, hn]
    exact hl
end
omit [XrC] in
/-- a law's walk, by its table: the def at f promises what Φ says, and Φ says True -/
theorem walk_G {l : PySem.W.OpenLaw} {n k f : Nat} {q : Program} {loose : List Str} {XP : (Str → Option Value) → Heap → Prop} {YP : World → Heap → Prop} {d : DefRec} {K : Params → Fg} {xI : Fg → (Str → Option Value) → XrC} {Φ : Ph}
    (most : l.most = some n) (small : n ≤ sizeLine) (plain : d.params.defaults = []) (room : Room k callerA) (top : ∀ (w : World) (h : Heap), YP w h → (K w.params).In h)
    (F : ∀ (w : World) (mg : Str → Option Value) (fa : Addr) (h : Heap), (K w.params).In h → h.Ns mainGlobals mg → mg d.name = some (.ref fa) → ∀ base : Heap, (K w.params).In base → base.Ns mainGlobals mg → @FnG (xI (K w.params) mg) l.prog w (K w.params) mg base (xI (K w.params) mg).xr Φ k ["script"] f fa)
    (hΦ : ∀ ns : List Int, ns.length ≤ n → ∃ fs, Φ f [.f (ns.map .int)] = .rt (.v (.bool true)) fs) : PySem.W.WalkO q loose XP YP l.row.toRowW d [] (fun f vs => PySem.call f vs) := by
  apply Att.attach_call most plain
  intro w _ s₁ mg _ fa _ _ _ _ a vs ns G Y _ _ _ named obj are len gens
  obtain ⟨fs, hf⟩ := hΦ ns len
  letI := xI (K w.params) mg
  exact law_callG (top w _ Y) G.T.g G.T.b G.T.builtins G.T.nolimit gens obj are (Nat.le_trans len small) room (F w mg fa _ (top w _ Y) G.T.g named) hf
def AllF (K : Fg) (mg : Str → Option Value) : List Rc → Prop
  | [] => True
  | r :: t => (∃ fa fd, QAt K mg r.qn fa ∧ Fun K r.x r.qual r.st fa fd) ∧ AllF K mg t
theorem AllF.mem {K : Fg} {mg : Str → Option Value} : ∀ {Tb : List Rc}, AllF K mg Tb → ∀ r ∈ Tb, ∃ fa fd, QAt K mg r.qn fa ∧ Fun K r.x r.qual r.st fa fd
  | r :: t, ⟨h, h'⟩, q, hq => by
    rcases List.mem_cons.mp hq with e | e
    · subst e; exact h
    · exact AllF.mem h' q e
theorem no_cl {P : Program} {w : World} {K : Fg} {mg : Str → Option Value} {base : Heap} : ∀ cn fs, ([] : List (Str × List Str)).lookup cn = some fs → ∃ C, ClA P w K mg base 2 cn fs C := fun _ _ h => by cases h
theorem one_cl {P : Program} {w : World} {K : Fg} {mg : Str → Option Value} {base : Heap} {x : Str} {l : List Str} {C : Addr} (h : ClA P w K mg base 2 x l C) : ∀ cn fs, [(x, l)].lookup cn = some fs → ∃ C, ClA P w K mg base 2 cn fs C := fun cn fs e => by
  rw [List.lookup_cons] at e
  split at e
  · rename_i hx
    cases e
    obtain rfl := beq_iff_eq.mp hx
    exact ⟨C, h⟩
  · cases e
def AllB (mg : Str → Option Value) : List Str → Prop
  | [] => True
  | x :: t => mg x = none ∧ AllB mg t
theorem AllB.mem {mg : Str → Option Value} : ∀ {l : List Str}, AllB mg l → ∀ x ∈ l, mg x = none
  | x :: t, ⟨h, h'⟩, q, hq => by
    rcases List.mem_cons.mp hq with e | e
    · subst e; exact h
    · exact AllB.mem h' q e
def AllC (K : Fg) (w : World) (mg : Str → Option Value) : List (Str × D) → Prop
  | [] => True
  | (x, d) :: t => ConAt K w mg x d ∧ AllC K w mg t
theorem AllC.con {K : Fg} {w : World} {mg : Str → Option Value} : ∀ {l : List (Str × D)}, AllC K w mg l → ConOk K w mg l
  | [], _, x, d, h => by cases h
  | (y, e) :: t, ⟨h, h'⟩, x, d, hx => by
    rw [List.lookup_cons] at hx
    split at hx
    · rename_i hxy
      cases hx
      rw [beq_iff_eq.mp hxy]; exact h
    · exact AllC.con h' x d hx
/-- a dict of the module by its entries -/
def entK (e : DictEntry) : Option Str × Value := (match e.key with
  | .str x _ => some x
  | _ => none, e.val)
theorem find_ent {z : Str} : ∀ {l : List DictEntry} {tb : List (Str × Value)}, l.map entK = tb.map (fun p => (some p.1, p.2)) → l.find? (fun e => e.key.isStr z) = none ∧ tb.lookup z = none ∨ ∃ e, l.find? (fun e => e.key.isStr z) = some e ∧ tb.lookup z = some e.val
  | [], [], _ => .inl ⟨rfl, rfl⟩
  | [], _ :: _, h => by simp at h
  | _ :: _, [], h => by simp at h
  | e :: l, (y, v) :: tb, h => by
    simp only [List.map_cons, List.cons.injEq] at h
    obtain ⟨h1, h2⟩ := h
    have hk : ∃ t, e.key = .str y t := by
      unfold entK at h1
      split at h1
      · rename_i x t q; simp at h1; exact ⟨t, by rw [q, h1.1]⟩
      · simp at h1
    obtain ⟨t, hk⟩ := hk
    have hv : e.val = v := by unfold entK at h1; simpa using congrArg Prod.snd h1
    by_cases hz : y = z
    · subst hz
      refine .inr ⟨e, ?_, ?_⟩
      · rw [List.find?_cons, hk]; simp [Value.isStr]
      · rw [List.lookup_cons, hv]; simp
    · have a1 : (e :: l).find? (fun e => e.key.isStr z) = l.find? (fun e => e.key.isStr z) := by
        rw [List.find?_cons, hk]
        have : (Value.str y t).isStr z = false := by show (y == z) = false; simpa using hz
        rw [this]
      have a2 : ((y, v) :: tb).lookup z = tb.lookup z := by
        rw [List.lookup_cons]
        have : (z == y) = false := by simpa using fun e => hz e.symm
        rw [this]
      rw [a1, a2]
      exact find_ent h2
theorem kd_mk {K : Fg} {w : World} {mg : Str → Option Value} {x : Str} {a : Addr} {en : Array DictEntry} {n : Nat} (hm : mg x = some (.ref a)) (hl : K.lookup a = some ⟨.type "dict", none, .dict en n, #[]⟩) (hk : PySem.W.KeysLit w.params en.toList) (ha : (a == sysModules) = false)
    (tb : List (Str × Value)) (es : List (Str × D)) (he : en.toList.map entK = tb.map (fun p => (some p.1, p.2))) (hb : tb.map (·.1) = es.map (·.1)) (hv : ∀ z u d, tb.lookup z = some u → es.lookup z = some d → ∃ v, L2.RelV v u ∧ ∀ S, Rp K S v d) : KdAt K w mg x es := by
  have same : ∀ {tb : List (Str × Value)} {es : List (Str × D)} {z : Str}, tb.map (·.1) = es.map (·.1) → (tb.lookup z = none ∧ es.lookup z = none) ∨ ∃ u d, tb.lookup z = some u ∧ es.lookup z = some d := by
    intro tb
    induction tb with
    | nil => intro es z h; cases es with
      | nil => exact .inl ⟨rfl, rfl⟩
      | cons _ _ => simp at h
    | cons p tb ih => intro es z h; cases es with
      | nil => simp at h
      | cons q es =>
        obtain ⟨y, u⟩ := p; obtain ⟨y', d⟩ := q
        simp only [List.map_cons, List.cons.injEq] at h
        obtain ⟨rfl, h⟩ := h
        rw [List.lookup_cons, List.lookup_cons]
        cases z == y with
        | true => exact .inr ⟨u, d, rfl, rfl⟩
        | false => exact ih h
  refine ⟨a, en, n, hm, ⟨hl, hk, ha⟩, fun z => ?_⟩
  have hn : PySem.W.nsIn K a z = some (tb.lookup z) := by
    unfold PySem.W.nsIn
    rw [hl]
    obtain ⟨l⟩ := en
    dsimp only at he ⊢
    rcases find_ent (z := z) he with ⟨e1, e2⟩ | ⟨e, e1, e2⟩
    · have hr : l.any (·.refKey) = false := by
        rw [List.any_eq_false]
        intro e he
        obtain ⟨x, t, k1, _⟩ := hk.all e he
        simp [DictEntry.refKey, k1]
      simp only [e1, e2, hr]
      rfl
    · simp only [e1, e2]
  rw [hn]
  rcases same (z := z) hb with ⟨e1, e2⟩ | ⟨u, d, e1, e2⟩
  · rw [e1, e2]
  · rw [e2]
    obtain ⟨v, h1, h2⟩ := hv z u d e1 e2
    exact ⟨u, v, by rw [e1], h1, h2⟩
def KdRel (K : Fg) : List (Str × Value) → List (Str × D) → Prop
  | (_, u) :: t, (_, d) :: t' => (∃ v, L2.RelV v u ∧ ∀ S, Rp K S v d) ∧ KdRel K t t'
  | _, _ => True
theorem kd_vals {K : Fg} : ∀ {tb : List (Str × Value)} {es : List (Str × D)}, tb.map (·.1) = es.map (·.1) → KdRel K tb es → ∀ z u d, tb.lookup z = some u → es.lookup z = some d → ∃ v, L2.RelV v u ∧ ∀ S, Rp K S v d
  | [], _, _, _, z, u, d, h, _ => by cases h
  | (y, u') :: tb, [], hb, _, z, u, d, _, h => by cases h
  | (y, u') :: tb, (y', d') :: es, hb, hr, z, u, d, h, h' => by
    simp only [List.map_cons, List.cons.injEq] at hb
    obtain ⟨rfl, hb⟩ := hb
    rw [List.lookup_cons] at h h'
    revert h h'
    cases z == y with
    | true => intro h h'; cases h; cases h'; exact hr.1
    | false => exact fun h h' => kd_vals hb hr.2 z u d h h'
theorem kv_tup {K : Fg} {p : Addr} {od : Option Addr} {n : Nat} {sl : Array (Option Value)} (l : List (Int × Tok)) (hl : l.length ≤ 100) (h : K.lookup p = some ⟨.type "tuple", od, .seq (l.map fun q => Value.int q.1 q.2).toArray n, sl⟩) :
    ∃ v, L2.RelV v (.ref p) ∧ ∀ S, Rp K S v (.tuple (l.map fun q => .int q.1)) := by
  have hl' : l.length ≤ PySem.sizeLine := by
    have e : PySem.sizeLine = 16777216 := by decide +kernel
    omega
  refine ⟨.ref p, rfl, fun S => .tup (xs := l.map fun q => V.int q.1) (.inr ?_) ?_⟩
  · have hv : Vals (l.map fun q => V.int q.1) (l.map fun q => Value.int q.1 q.2) := by
      clear h hl hl'
      induction l with
      | nil => exact .nil
      | cons q l ih => exact .cons ⟨_, rfl⟩ ih
    exact ⟨_, (l.map fun q => Value.int q.1 q.2).toArray, _, h, rfl, rfl, by simpa using hl', by simpa using hv⟩
  · clear h hl hl'
    induction l with
    | nil => exact .nil
    | cons q l ih => exact .cons (.int _) ih
/-- a class's statement -/
def clsAt (s : Stmt) (i : Nat) : Stmt := match s with
  | .ClassDef (body := b) .. => b.getD i (.Pass ⟨0, 0, 0, 0⟩)
  | s => s
/-- a class's first statement -/
def clsFirst : Stmt → Stmt
  | .ClassDef (body := b) .. => b.getD 0 (.Pass ⟨0, 0, 0, 0⟩)
  | s => s
section
variable {P : Program} {w : World} {K : Fg} {h base : Heap} {mg : Str → Option Value} {x f qual : Str} {k : Nat} {C CB fI : Addr} {st : Stmt} {fd : FuncData}
theorem xct_of (k1 : PySem.W.keepIn K (.ref C) = true) (k2 : PySem.W.subIn K (.ref C) (.type "BaseException") = some true) (k3 : PySem.W.typeIn K (.ref C) = some (.type "type")) (k4 : PySem.W.isClsIn K C = true)
    (k5 : PySem.W.findIn K (.ref C) "__getattribute__" = some (some (.builtin "BaseException.__getattribute__"))) (k6 : PySem.W.findIn K (.ref C) "__getattr__" = some none) (k7 : PySem.W.findIn K (.ref C) "__class__" = some (some (.builtin "object.__class__")))
    (k8 : PySem.W.mroIn K C (.type "object") = some true) (k9 : PySem.W.subIn K (.ref C) (.type "ValueError") = some true) : XcT K C := ⟨k1, k2, k3, k4, k5, k6, k7, k8, k9⟩
theorem xent0 (g : mg x = some (.ref C)) (t : XcT K C) (q : PySem.W.excIn K C [.type "ValueError", .type "Exception", .type "BaseException", .type "object"] "ValueError.__new__" = true) : XEnt P w K mg base x ⟨k, none⟩ C := ⟨g, t, q⟩
theorem xent1 {nm q : Str} {N : Addr} {bs : List Value} {sn : List Str} {sub : List Value} {ab : Bool} {col : Option Bool} {dd : Option Addr} {m0 m1 m2 m3 m5 : Option Value} (g : mg x = some (.ref C)) (t : XcT K C) (B : InT K mg "RowError" CB)
    (xL : K.lookup C = some (excClassObj nm q C N bs [.ref CB, .type "ValueError", .type "Exception", .type "BaseException", .type "object"] true sn sub ab col dd m0 m1 m2 m3 m5 "ValueError.__new__"))
    (sa : PySem.W.findIn K (.ref C) "__setattr__" = some (some (.builtin "object.__setattr__"))) (iC : PySem.W.findIn K (.ref C) "__init__" = some (some (.ref fI))) (tI : PySem.W.typeIn K (.ref fI) = some (.type "function"))
    (noF : PySem.W.findIn K (.ref C) f = some none) (hd : PySem.W.hasDictIn K C = true) (F : Fun K "__init__" qual st fI fd) (hi : initIs "RowError" f st = true) : XEnt P w K mg base x ⟨k, some f⟩ C := by
  have T : OexC K C := ⟨⟨nm, q, N, bs, _, sn, sub, ab, col, dd, m0, m1, m2, m3, m5, xL, by show PySem.HandSPX.refsVE [.type "ValueError", .type "Exception", .type "BaseException", .type "object"] = true; decide +kernel⟩, sa, t.exC, t.tyC, t.kC⟩
  obtain ⟨h1, h2⟩ := init_fn (P := P) (w := w) (mg := mg) (base := base) B F hi T noF
  exact ⟨g, t, fI, fd, T, iC, tI, noF, hd, h1, h2⟩
end
def AllXE (P : Program) (w : World) (K : Fg) (mg : Str → Option Value) (base : Heap) : List (Str × XI) → Prop
  | [] => True
  | (x, xi) :: t => (∃ C, XEnt P w K mg base x xi C) ∧ AllXE P w K mg base t
def SubRow (K : Fg) (mg : Str → Option Value) (x : Str) (k : Nat) : List (Str × XI) → Prop
  | [] => True
  | (y, yi) :: t => (∀ C C', mg x = some (.ref C) → mg y = some (.ref C') → PySem.W.subIn K (.ref C) (.ref C') = some (subX k yi.id)) ∧ SubRow K mg x k t
def AllXS (K : Fg) (mg : Str → Option Value) (xs : List (Str × XI)) : List (Str × XI) → Prop
  | [] => True
  | (x, xi) :: t => SubRow K mg x xi.id xs ∧ AllXS K mg xs t
theorem sub_mk {K : Fg} {mg : Str → Option Value} {x y : Str} {k j : Nat} {C1 C2 : Addr} {b : Bool} (e1 : mg x = some (.ref C1)) (e2 : mg y = some (.ref C2)) (h : PySem.W.subIn K (.ref C1) (.ref C2) = some b) (hb : subX k j = b) :
    ∀ C C', mg x = some (.ref C) → mg y = some (.ref C') → PySem.W.subIn K (.ref C) (.ref C') = some (subX k j) := fun C C' h1 h2 => by
  rw [e1] at h1; cases h1
  rw [e2] at h2; cases h2
  rw [hb]; exact h
theorem AllXE.at {P : Program} {w : World} {K : Fg} {mg : Str → Option Value} {base : Heap} : ∀ {l : List (Str × XI)}, AllXE P w K mg base l → ∀ x xi, l.lookup x = some xi → ∃ C, XEnt P w K mg base x xi C
  | [], _, x, xi, h => by cases h
  | (y, yi) :: t, ⟨h, h'⟩, x, xi, hx => by
    rw [List.lookup_cons] at hx
    split at hx
    · rename_i hxy
      cases hx
      rw [beq_iff_eq.mp hxy]; exact h
    · exact AllXE.at h' x xi hx
theorem SubRow.at {K : Fg} {mg : Str → Option Value} {x : Str} {k : Nat} : ∀ {l : List (Str × XI)}, SubRow K mg x k l → ∀ y yi, l.lookup y = some yi → ∀ C C', mg x = some (.ref C) → mg y = some (.ref C') → PySem.W.subIn K (.ref C) (.ref C') = some (subX k yi.id)
  | [], _, y, yi, h => by cases h
  | (z, zi) :: t, ⟨h, h'⟩, y, yi, hy => by
    rw [List.lookup_cons] at hy
    split at hy
    · rename_i hxy
      cases hy
      rw [beq_iff_eq.mp hxy]; exact h
    · exact SubRow.at h' y yi hy
theorem AllXS.at {K : Fg} {mg : Str → Option Value} {xs : List (Str × XI)} : ∀ {l : List (Str × XI)}, AllXS K mg xs l → ∀ x xi, l.lookup x = some xi → SubRow K mg x xi.id xs
  | [], _, x, xi, h => by cases h
  | (y, yi) :: t, ⟨h, h'⟩, x, xi, hx => by
    rw [List.lookup_cons] at hx
    split at hx
    · rename_i hxy
      cases hx
      rw [beq_iff_eq.mp hxy]; exact h
    · exact AllXS.at h' x xi hx
theorem ids_at : ∀ {l : List (Str × XI)}, (l.map (·.2.id)).Nodup → ∀ x xi y yi, l.lookup x = some xi → l.lookup y = some yi → xi.id = yi.id → x = y := by
  have mem : ∀ {l : List (Str × XI)} {x : Str} {xi : XI}, l.lookup x = some xi → (x, xi) ∈ l := by
    intro l
    induction l with
    | nil => intro x xi h; cases h
    | cons p t ih =>
      intro x xi h
      obtain ⟨y, yi⟩ := p
      rw [List.lookup_cons] at h
      split at h
      · rename_i hxy
        cases h
        rw [beq_iff_eq.mp hxy]; exact List.mem_cons_self
      · exact List.mem_cons_of_mem _ (ih h)
  intro l
  induction l with
  | nil => intro _ x xi y yi h; cases h
  | cons p t ih =>
    intro nd x xi y yi hx hy e
    obtain ⟨z, zi⟩ := p
    rw [List.map_cons, List.nodup_cons] at nd
    rw [List.lookup_cons] at hx hy
    split at hx
    · rename_i h1
      cases hx
      split at hy
      · rename_i h2
        rw [beq_iff_eq.mp h1, beq_iff_eq.mp h2]
      · exact absurd (List.mem_map.mpr ⟨_, mem hy, e.symm⟩) nd.1
    · split at hy
      · cases hy
        exact absurd (List.mem_map.mpr ⟨_, mem hx, e⟩) nd.1
      · exact ih nd.2 x xi y yi hx hy e
theorem xok_of {P : Program} {w : World} {K : Fg} {mg : Str → Option Value} {base : Heap} {xs : List (Str × XI)} (h1 : AllXE P w K mg base xs) (h2 : AllXS K mg xs xs) (h3 : (xs.map (·.2.id)).Nodup) (g : xs ≠ [] → XgT K) : XOk P w K mg base xs :=
  ⟨h1.at, fun x xi y yi hx hy => (h2.at x xi hx).at y yi hy, ids_at h3, g⟩
end Vc
end
section
set_option Elab.async false
set_option linter.all false
set_option maxRecDepth 100000
namespace Vc
open PySem PySem.Spec PyProof.Rows L2
instance (priority := low) : XrC := ⟨fun _ _ _ _ _ => False, fun _ _ h => h⟩
theorem run_at {T : Nat → Option Df} {n f : Nat} {d : Df} {as : List AV} (h : T f = some d) : run T (msOf T) (n + 1) f as = runDf (run T (msOf T) n) (msOf T) d as := by
  show (match T f with
    | none => CO.st
    | some d => runDf (run T (msOf T) n) (msOf T) d as) = _
  rw [h]
theorem ms_at {T : Nat → Option Df} {f : Nat} {d : Df} (h : T f = some d) : msOf T f = d.md := by unfold msOf; rw [h]
def R.bl : R → (RV → En → RL) → RL
  | .st, _ => .st
  | .ok r e, f => f r e
  | .ex x e, _ => .ex x e
@[simp] theorem R.bl_ok {r : RV} {e : En} {f : RV → En → RL} : R.bl (.ok r e) f = f r e := rfl
def RL.bl : RL → (List RV → En → RL) → RL
  | .st, _ => .st
  | .ok r e, f => f r e
  | .ex x e, _ => .ex x e
@[simp] theorem RL.bl_ok {r : List RV} {e : En} {f : List RV → En → RL} : RL.bl (.ok r e) f = f r e := rfl
@[simp] theorem mul_tup {a : List D} {k : Int} : op2 .mul (.tuple a) (.int k) = if repOkT a.length k then some (.v (.tuple (List.replicate k.toNat a).flatten)) else none := id rfl
@[simp] theorem zz1 {r : RV} {e : En} {f : RV → En → R} : R.bd (.ok r e) f = f r e := id rfl
@[simp] theorem zz2 {f : RV → En → R} : R.bd .st f = .st := id rfl
@[simp] theorem zz3 {r : RV} {e : En} {f : RV → En → RT} : R.bt (.ok r e) f = f r e := id rfl
@[simp] theorem zz4 {f : RV → En → RT} : R.bt .st f = .st := id rfl
@[simp] theorem zz5 {r : RV} {e : En} {f : RV → En → O} : R.bo (.ok r e) f = f r e := id rfl
@[simp] theorem zz6 {f : RV → En → O} : R.bo .st f = .st := id rfl
@[simp] theorem zz7 {r : RV} {e : En} {f : RV → En → RI} : R.bi (.ok r e) f = f r e := id rfl
@[simp] theorem zz8 {f : RV → En → RI} : R.bi .st f = .st := id rfl
@[simp] theorem zz9 {r : List RV} {e : En} {f : List RV → En → R} : RL.bd (.ok r e) f = f r e := id rfl
@[simp] theorem zz10 {f : List RV → En → R} : RL.bd .st f = .st := id rfl
@[simp] theorem zz11 {r : List RV} {e : En} {f : List RV → En → O} : RL.bo (.ok r e) f = f r e := id rfl
@[simp] theorem zz12 {f : List RV → En → O} : RL.bo .st f = .st := id rfl
@[simp] theorem zz13 {r : List RV} {e : En} {f : List RV → En → RI} : RL.bi (.ok r e) f = f r e := id rfl
@[simp] theorem zz14 {f : List RV → En → RI} : RL.bi .st f = .st := id rfl
@[simp] theorem zz15 {r : Bool} {e : En} {f : Bool → En → R} : RT.bd (.ok r e) f = f r e := id rfl
@[simp] theorem zz16 {f : Bool → En → R} : RT.bd .st f = .st := id rfl
@[simp] theorem zz17 {r : Bool} {e : En} {f : Bool → En → O} : RT.bo (.ok r e) f = f r e := id rfl
@[simp] theorem zz18 {f : Bool → En → O} : RT.bo .st f = .st := id rfl
@[simp] theorem zz19 {r : List D} {l : Option Nat} {e : En} {f : List D → Option Nat → En → R} : RI.bd (.ok r l e) f = f r l e := id rfl
@[simp] theorem zz20 {f : List D → Option Nat → En → R} : RI.bd .st f = .st := id rfl
@[simp] theorem zz21 {r : List D} {l : Option Nat} {e : En} {f : List D → Option Nat → En → O} : RI.bo (.ok r l e) f = f r l e := id rfl
@[simp] theorem zz22 {f : List D → Option Nat → En → O} : RI.bo .st f = .st := id rfl
@[simp] theorem zz23 {r : RV} {e : En} {f : En → O} : O.bd (.st) f = .st := id rfl
@[simp] theorem zz24 {r : RV} {e : En} {f : En → O} : O.bd (.rt r e) f = .rt r e := id rfl
@[simp] theorem zz25 {r : RV} {e : En} {f : En → O} : O.bd (.bk e) f = .bk e := id rfl
@[simp] theorem zz26 {r : RV} {e : En} {f : En → O} : O.bd (.ct e) f = .ct e := id rfl
@[simp] theorem zz27 {e : En} {f : En → O} : O.bd (.nx e) f = f e := id rfl
@[simp] theorem zz28 {b : Bool} {e : En} : asT (.ok (.v (.bool b)) e) = .ok b e := id rfl
@[simp] theorem zz29 {e : En} {d : D} : res e (.v d) = some d := id rfl
@[simp] theorem zz30 {e : En} {d : List D} : res e (.o d) = some (.list d) := id rfl
@[simp] theorem zz31 {e : En} {d : D} : resF e (.v d) = some d := id rfl
@[simp] theorem zz32 {e : En} {d : List D} : resF e (.o d) = some (.list d) := id rfl
@[simp] theorem zz33 {e : En} {d : D} : toV e (.v d) = some (d, e) := id rfl
@[simp] theorem zz34 {e : En} {d : List D} : toV e (.o d) = some (.list d, e) := id rfl
@[simp] theorem zz35 {e : En} {i : Nat} : res e (.b i) = match e[i]? with | some (.v d) => some d | some (.o ds) => some (.list ds) | _ => none := id rfl
@[simp] theorem zz36 {e : En} {i : Nat} : resF e (.b i) = match e[i]? with | some (.v d) => some d | some (.o ds) => some (.list ds) | some (.f ds) => some (.list ds) | _ => none := by show (match e[i]? with | some (.v d) => some d | some (.o ds) => some (.list ds) | some (.f ds) => some (.list ds) | _ => none) = _; rfl
@[simp] theorem zz37 {e : En} {i : Nat} : toV e (.b i) = match e[i]? with | some (.v d) => some (d, e) | some (.o ds) => some (.list ds, e.set i (.v (.list ds))) | _ => none := id rfl
@[simp] theorem zz38 {e : En} {i : Nat} {r : RV} : put i false r e = (toV e r).map fun p => p.2.set i (.v p.1) := by cases r <;> rfl
@[simp] theorem zz39 {e : En} {i : Nat} {d : D} : put i true (.v d) e = some (e.set i (.v d)) := id rfl
@[simp] theorem zz40 {e : En} {i : Nat} {d : List D} : put i true (.o d) e = some (e.set i (.o d)) := id rfl
@[simp] theorem zz41 {e : En} {r : D} : ofO e (some (.v r)) = .ok (.v r) e := id rfl
@[simp] theorem zz42 {e : En} {r : RV} : ofO e (some r) = .ok r e := id rfl
@[simp] theorem zz43 {e : En} : ofO e none = .st := id rfl
@[simp] theorem zz44 {e : En} {b : Bool} : ofB e (some b) = .ok (.v (.bool b)) e := id rfl
@[simp] theorem zz45 {e : En} : ofB e none = .st := id rfl
@[simp] theorem zz46 {e : En} : ress e [] = some [] := id rfl
@[simp] theorem zz47 {e : En} {r : RV} {rs : List RV} : ress e (r :: rs) = (res e r).bind fun d => (ress e rs).map (d :: ·) := id rfl
@[simp] theorem zz48 {e : En} : ressF e [] = some [] := id rfl
@[simp] theorem zz49 {e : En} {r : RV} {rs : List RV} : ressF e (r :: rs) = (resF e r).bind fun d => (ressF e rs).map (d :: ·) := id rfl
@[simp] theorem zz50 {e : En} : toVs [] e = some ([], e) := id rfl
@[simp] theorem zz51 {e : En} {r : RV} {rs : List RV} : toVs (r :: rs) e = (toV e r).bind fun p => (toVs rs p.2).map fun q => (p.1 :: q.1, q.2) := id rfl
@[simp] theorem zz52 {a b : Int} : op2 .add (.int a) (.int b) = some (.v (.int (a + b))) := id rfl
@[simp] theorem zz53 {a b : Int} : op2 .sub (.int a) (.int b) = some (.v (.int (a - b))) := id rfl
@[simp] theorem zz54 {a b : List D} : op2 .add (.list a) (.list b) = if a.length + b.length ≤ 16777216 then some (.o (a ++ b)) else none := id rfl
@[simp] theorem zz55 {a b : Int} : op2 .mul (.int a) (.int b) = if mulOk a b then some (.v (.int (a * b))) else none := id rfl
@[simp] theorem zz56 {a : List D} {k : Int} : op2 .mul (.list a) (.int k) = if repOk a.length k then some (.o (List.replicate k.toNat a).flatten) else none := id rfl
@[simp] theorem zz57 {a b : Int} : op2 .fdiv (.int a) (.int b) = if divOk b then some (.v (.int (a / b))) else none := id rfl
@[simp] theorem zz58 {a b : Int} : op2 .mod (.int a) (.int b) = if 0 < b then some (.v (.int (a % b))) else none := by simp [op2, modD]
@[simp] theorem zz59 {a b : Int} : op2 .pow (.int a) (.int b) = if powOk a b then some (.v (.int (a ^ b.toNat))) else none := id rfl
@[simp] theorem zz60 {a b : Int} : cmpD .lt (.int a) (.int b) = some (decide (a < b)) := id rfl
@[simp] theorem zz61 {a b : Int} : cmpD .le (.int a) (.int b) = some (decide (a ≤ b)) := id rfl
@[simp] theorem zz62 {a b : Int} : cmpD .gt (.int a) (.int b) = some (decide (b < a)) := id rfl
@[simp] theorem zz63 {a b : Int} : cmpD .ge (.int a) (.int b) = some (decide (b ≤ a)) := id rfl
@[simp] theorem zz64 {a b : D} : cmpD .eq a b = eqD a b := id rfl
@[simp] theorem zz65 {a b : D} : cmpD .ne a b = (eqD a b).map (!·) := id rfl
@[simp] theorem zz66 {a b : Int} : eqD (.int a) (.int b) = some (decide (a = b)) := by simp [eqD, okD, SeqAt.shaped, PyData.canLay0, PyData.depth, PyData.eqv]; rfl
theorem ixD_l {xs : List D} {i : Int} : ixD (.list xs) (.int i) = ((ixOf xs.length i).bind fun j => xs[j]?).map .v := rfl
theorem ixD_t {xs : List D} {i : Int} : ixD (.tuple xs) (.int i) = ((ixOf xs.length i).bind fun j => xs[j]?).map .v := rfl
@[simp] theorem zz67 {xs : List D} {a b : Option Int} : slD (.list xs) a b = some (.o (cutL xs a b)) := id rfl
@[simp] theorem zz68 {xs : List D} : biD .len [.list xs] = some (.v (.int xs.length)) := id rfl
@[simp] theorem zz69 {xs : List D} : biD .len [.tuple xs] = some (.v (.int xs.length)) := id rfl
@[simp] theorem zz70 {i : Int} : biD .abs [.int i] = some (.v (.int i.natAbs)) := id rfl
@[simp] theorem zz71 {i : Int} : biD .int [.int i] = some (.v (.int i)) := id rfl
@[simp] theorem zz72 {i : Bool} : biD .int [.bool i] = some (.v (.int (if i = true then 1 else 0))) := id rfl
@[simp] theorem zz73 {i j : Int} : biD .max [.int i, .int j] = some (.v (.int (max i j))) := id rfl
@[simp] theorem zz74 {i j : Int} : biD .min [.int i, .int j] = some (.v (.int (min i j))) := id rfl
@[simp] theorem zz75 {xs : List D} : biD .sum [.list xs] = (intsOf xs).map fun ns => .v (.int ns.sum) := id rfl
@[simp] theorem zz76 {xs : List D} : biD .sorted [.list xs] = (intsOf xs).map fun ns => .o ((sortI ns).map .int) := id rfl
@[simp] theorem zz77 {xs : List D} : biD .list [.list xs] = some (.o xs) := id rfl
@[simp] theorem zz78 {xs : List D} : biD .list [.tuple xs] = some (.o xs) := id rfl
@[simp] theorem zz79 {xs : List D} : biD .tuple [.list xs] = some (.v (.tuple xs)) := id rfl
@[simp] theorem zz80 {xs : List D} : biD .tuple [.tuple xs] = some (.v (.tuple xs)) := id rfl
@[simp] theorem zz81 {d : D} : biD .repr [d] = if showOk d then some (.v (.str d.shown)) else none := id rfl
@[simp] theorem zz82 {xs : List D} : biD .all [.list xs] = (boolsOf xs).map fun bs => .v (.bool (bs.all id)) := id rfl
@[simp] theorem zz83 {xs : List D} : biD .any [.list xs] = (boolsOf xs).map fun bs => .v (.bool (bs.any id)) := id rfl
@[simp] theorem zz84 {i : Int} : isTy .int (.int i) = true := id rfl
@[simp] theorem zz85 {i : Int} : isTy .bool (.int i) = false := id rfl
@[simp] theorem zz86 {xs : List D} : isTy .list (.list xs) = true := id rfl
@[simp] theorem zz87 {xs : List D} : isTy .tuple (.tuple xs) = true := id rfl
@[simp] theorem zz88 {xs : List D} : isTy .tuple (.list xs) = false := id rfl
@[simp] theorem zz89 {i : Bool} : isTy .bool (.bool i) = true := id rfl
@[simp] theorem zz90 {i : Bool} : isTy .int (.bool i) = true := id rfl
@[simp] theorem zz91 : isTy .int .none = false := id rfl
@[simp] theorem zz92 : isTy .bool .none = false := id rfl
@[simp] theorem zz93 : isNo .none = true := id rfl
@[simp] theorem zz94 {i : Int} : isNo (.int i) = false := id rfl
@[simp] theorem zz95 {i : List D} : isNo (.tuple i) = false := id rfl
@[simp] theorem zz96 {i : List D} : isNo (.list i) = false := id rfl
@[simp] theorem zz97 {i : Str} : isNo (.str i) = false := id rfl
@[simp] theorem zz98 {xs : List D} {d : D} : muD .append xs [d] = if xs.length < 16777216 then some (.none, xs ++ [d]) else none := id rfl
@[simp] theorem zz99 {xs ys : List D} : muD .extend xs [.list ys] = if xs.length + ys.length ≤ 16777216 then some (.none, xs ++ ys) else none := id rfl
@[simp] theorem zz100 {x y : Int} : augI .add x y = some (x + y) := id rfl
@[simp] theorem zz101 {x y : Int} : augI .sub x y = some (x - y) := id rfl
@[simp] theorem zz102 : optI [] = some none := id rfl
@[simp] theorem zz103 {i : Int} : optI [.v (.int i)] = some (some i) := id rfl
@[simp] theorem zz104 {j : Int} : rngD [.int j] = if rngOk 0 j then some (upto 0 j.toNat) else none := id rfl
@[simp] theorem zz105 {i j : Int} : rngD [.int i, .int j] = if rngOk i j then some (upto i (j - i).toNat) else none := id rfl
@[simp] theorem zz106 {i j c : Int} : rngD [.int i, .int j, .int c] = if stepOk i j c then some (steps i c (stepN i j c)) else none := id rfl
@[simp] theorem zz107 : L = 16777216 := by decide +kernel
@[simp] theorem zz108 {e : En} {o : O} : unlockO e [] o = o := by cases o <;> rfl
@[simp] theorem zz109 {e : En} : wipeE e [] = e := id rfl
@[simp] theorem zz110 {e : En} {d : D} {i : Nat} : asgT (.n i) d e = some (e.set i (.v d)) := id rfl
@[simp] theorem zz111 {e : En} {ds : List D} {is : List Nat} : asgT (.t is) (.tuple ds) e = asgs is ds e := id rfl
@[simp] theorem zz112 {e : En} : asgs [] [] e = some e := id rfl
@[simp] theorem zz113 {e : En} {i : Nat} {is : List Nat} {d : D} {ds : List D} : asgs (i :: is) (d :: ds) e = asgs is ds (e.set i (.v d)) := id rfl
@[simp] theorem zz114 {md : List Md} {e : En} : endR md (.nx e) = if finL md e then .rt (.v .none) (fins md e) else .st := id rfl
@[simp] theorem zz115 {md : List Md} {e : En} {d : D} : endR md (.rt (.v d) e) = if finL md e then .rt (.v d) (fins md e) else .st := id rfl
@[simp] theorem zz116 {md : List Md} {e : En} {d : List D} : endR md (.rt (.o d) e) = if finL md e then .rt (.o d) (fins md e) else .st := id rfl
@[simp] theorem zz117 {md : List Md} {e : En} {i : Nat} : endR md (.rt (.b i) e) = if finL md e then (match outR md e (.b i) with | some c => .rt c (fins md e) | none => .st) else .st := id rfl
@[simp] theorem zz118 : inits [] [] = some [] := id rfl
@[simp] theorem zz119 {ms : List Md} {as : List AV} {d : D} : inits (.v :: ms) (.v d :: as) = (inits ms as).map (.v d :: ·) := id rfl
@[simp] theorem zz120 {ms : List Md} {as : List AV} {d : List D} : inits (.m :: ms) (.m d :: as) = (inits ms as).map (.o d :: ·) := id rfl
@[simp] theorem zz121 {ms : List Md} {as : List AV} {d : List D} : inits (.f :: ms) (.f d :: as) = (inits ms as).map (.f d :: ·) := id rfl
@[simp] theorem zz122 {e : En} : finL [] e = true := by cases e <;> rfl
@[simp] theorem zz123 {ms : List Md} {e : En} {s : Sl} : finL (.v :: ms) (s :: e) = finL ms e := id rfl
@[simp] theorem zz124 {ms : List Md} {e : En} {s : Sl} : finL (.f :: ms) (s :: e) = finL ms e := id rfl
@[simp] theorem zz125 {ms : List Md} {e : En} {d : List D} : finL (.m :: ms) (.o d :: e) = finL ms e := id rfl
@[simp] theorem zz126 {ms : List Md} {e : En} {d : List D} : finL (.m :: ms) (.v (.list d) :: e) = finL ms e := id rfl
@[simp] theorem zz127 {e : En} : fins [] e = [] := by cases e <;> rfl
@[simp] theorem zz128 {ms : List Md} {e : En} {s : Sl} : fins (.m :: ms) (s :: e) = s :: fins ms e := id rfl
@[simp] theorem zz129 {ms : List Md} {e : En} {s : Sl} : fins (.v :: ms) (s :: e) = .no :: fins ms e := id rfl
@[simp] theorem zz130 {ms : List Md} {e : En} {s : Sl} : fins (.f :: ms) (s :: e) = .no :: fins ms e := id rfl
@[simp] theorem zz131 {Φ : Ph} {ms : Nat → List Md} {e : En} : exSs Φ ms .nil e = .nx e := by rw [exSs]
@[simp] theorem zz132 {Φ : Ph} {ms : Nat → List Md} {e : En} {s : Sm} {r : Sms} : exSs Φ ms (.cons s r) e = (exS Φ ms s e).bd fun e1 => exSs Φ ms r e1 := by rw [exSs]
@[simp] theorem zz133 {Φ : Ph} {ms : Nat → List Md} {e : En} : evL Φ ms .nil e = .ok [] e := by rw [evL]
@[simp] theorem zz134 {Φ : Ph} {ms : Nat → List Md} {e : En} {a : Ex} {r : Exs} : evL Φ ms (.cons a r) e = (evE Φ ms a e).bl fun x e1 => (evL Φ ms r e1).bl fun xs e2 => .ok (x :: xs) e2 := by rw [evL]; cases evE Φ ms a e with | st => rfl | ex _ _ => rfl | ok x e1 => simp only [R.bl]; cases evL Φ ms r e1 <;> rfl
/-- an integer of at most m bits -/
def Bd (m : Nat) (a : Int) : Prop := a.natAbs < 2 ^ m
theorem Bd.lg {m : Nat} {a : Int} (h : Bd m a) : a.natAbs.log2 ≤ m := by
  by_cases h0 : a.natAbs = 0
  · rw [h0]; simp
  · exact Nat.le_of_lt ((Nat.log2_lt h0).mpr h)
theorem Bd.lg' {m : Nat} {a : Int} (h : Bd m a) (hm : 0 < m) : a.natAbs.log2 < m := by
  by_cases h0 : a.natAbs = 0
  · rw [h0]; simpa using hm
  · exact (Nat.log2_lt h0).mpr h
theorem Bd.mono {m n : Nat} {a : Int} (h : Bd m a) (hm : m ≤ n) : Bd n a := Nat.lt_of_lt_of_le h (Nat.pow_le_pow_right (by decide) hm)
theorem Bd.mul {m n : Nat} {a b : Int} (h : Bd m a) (h' : Bd n b) : Bd (m + n) (a * b) := by
  unfold Bd at *
  rw [Int.natAbs_mul, Nat.pow_add]
  exact Nat.mul_lt_mul'' h h'
theorem Bd.add {m : Nat} {a b : Int} (h : Bd m a) (h' : Bd m b) : Bd (m + 1) (a + b) := by
  unfold Bd at *
  rw [Nat.pow_succ]
  have := Int.natAbs_add_le a b
  omega
theorem Bd.sub {m : Nat} {a b : Int} (h : Bd m a) (h' : Bd m b) : Bd (m + 1) (a - b) := by
  unfold Bd at *
  rw [Nat.pow_succ]
  have := Int.natAbs_sub_le a b
  omega
theorem Bd.neg {m : Nat} {a : Int} (h : Bd m a) : Bd m (-a) := by unfold Bd at *; rwa [Int.natAbs_neg]
theorem Bd.of {m : Nat} {a : Int} (h : -(2 ^ m : Nat) < a) (h' : a < (2 ^ m : Nat)) : Bd m a := by
  unfold Bd; omega
theorem Bd.of' {m : Nat} {a : Int} (h : 0 ≤ a) (h' : a < (2 ^ m : Nat)) : Bd m a := by
  unfold Bd; omega
theorem Bd.le {m : Nat} {a b : Int} (h : Bd m b) (h0 : 0 ≤ a) (h1 : a ≤ b) : Bd m a := by
  unfold Bd at *; omega
theorem Bd.pow {m : Nat} {a : Int} (h : Bd m a) : ∀ n : Nat, Bd (m * n + 1) (a ^ n)
  | 0 => by unfold Bd; simp
  | n + 1 => by
    have q := (Bd.pow h n).mul h
    rw [Int.pow_succ]
    exact q.mono (by rw [Nat.mul_succ]; omega)
theorem mulOk_of {m n : Nat} {a b : Int} (h : Bd m a) (h' : Bd n b) (hmn : m + n < 1000000) : mulOk a b = true := by
  have h1 := h.lg
  have h2 := h'.lg
  unfold mulOk
  rw [cd_iff]
  omega
theorem divOk_of {m : Nat} {b : Int} (h : Bd m b) (h0 : 0 < b) (hm : m < 9000) : divOk b = true := by
  have h1 := h.lg
  unfold divOk
  rw [cd_iff]
  omega
theorem powOk_of {m : Nat} {a n : Int} (h : Bd m a) (h0 : 0 ≤ n) (hm : ((m : Int) + 1) * n ≤ 2 ^ 27) : powOk a n = true := by
  unfold powOk
  rw [cd_iff]
  refine ⟨h0, Int.le_trans (Int.mul_le_mul_of_nonneg_right ?_ h0) hm⟩
  unfold Builtin.Int.intBits
  have := h.lg
  split <;> omega
theorem unl_nil {e : En} {o : O} : unlockO e [] o = o := by cases o <;> rfl
theorem for_inv {tg : Tg} {f : En → O} (I : Nat → En → Prop) : ∀ (ds : List D) (k : Nat) (e : En), I k e → (∀ (i : Nat) (d : D) (e : En), ds[i]? = some d → I (k + i) e → ∃ e1, asgT tg d e = some e1 ∧ ∃ e2, (f e1 = .nx e2 ∨ f e1 = .ct e2) ∧ I (k + i + 1) e2) →
    ∃ e', forGo tg f ds e = .nx e' ∧ I (k + ds.length) e'
  | [], k, e, h, _ => ⟨e, rfl, h⟩
  | d :: ds, k, e, h, st => by
    obtain ⟨e1, h1, e2, h2, h3⟩ := st 0 d e rfl h
    obtain ⟨e', h4, h5⟩ := for_inv I ds (k + 1) e2 h3 fun i d' e' hd hi => by
      have := st (i + 1) d' e' (by simpa using hd) (by rw [show k + (i + 1) = k + 1 + i by omega]; exact hi)
      rw [show k + (i + 1) = k + 1 + i by omega] at this
      exact this
    refine ⟨e', ?_, by rw [List.length_cons, show k + (ds.length + 1) = k + 1 + ds.length by omega]; exact h5⟩
    unfold forGo
    rw [h1]
    rcases h2 with h2 | h2 <;> simp only [h2] <;> exact h4
theorem upto_get {lo : Int} {n i : Nat} {d : D} (h : (upto lo n)[i]? = some d) : i < n ∧ d = .int (lo + i) := by
  have hi : i < n := by
    obtain ⟨q, _⟩ := List.getElem?_eq_some_iff.mp h
    simpa [upto] using q
  refine ⟨hi, ?_⟩
  unfold upto at h
  rw [List.getElem?_map, List.getElem?_range hi] at h
  exact (Option.some.inj h).symm
theorem upto_len {lo : Int} {n : Nat} : (upto lo n).length = n := by simp [upto]
/-- a loop over a range -/
theorem for_rng {i : Nat} {f : En → O} (I : Nat → En → Prop) {lo : Int} {n : Nat} {e : En} (h : I 0 e) (st : ∀ (k : Nat) (e : En), k < n → I k e → ∃ e2, (f (e.set i (.v (.int (lo + k)))) = .nx e2 ∨ f (e.set i (.v (.int (lo + k)))) = .ct e2) ∧ I (k + 1) e2) :
    ∃ e', forGo (.n i) f (upto lo n) e = .nx e' ∧ I n e' := by
  have := for_inv (tg := .n i) (f := f) I (upto lo n) 0 e h fun j d e hd hi => by
    obtain ⟨h1, rfl⟩ := upto_get hd
    rw [Nat.zero_add] at *
    exact ⟨_, rfl, st j e h1 hi⟩
  rwa [upto_len, Nat.zero_add] at this
end Vc

namespace Vc
theorem lc_pure {i : Nat} {ft : En → RT} {fg : En → R} {p : D → Bool} {g : D → D} : ∀ (ds : List D) (e e0 : En), (∀ x, e.set i x = e0.set i x) → i < e0.length →
    (∀ d ∈ ds, ft (e0.set i (.v d)) = .ok (p d) (e0.set i (.v d)) ∧ (p d = true → ∃ r, fg (e0.set i (.v d)) = .ok r (e0.set i (.v d)) ∧ toV (e0.set i (.v d)) r = some (g d, e0.set i (.v d)))) →
    ∃ e', lcGo (.n i) [i] ft fg ds e = .ok ((ds.filter p).map g) e' ∧ ∀ x, e'.set i x = e0.set i x
  | [], e, e0, h, _, _ => ⟨e, rfl, h⟩
  | d :: ds, e, e0, h, hi, hd => by
    obtain ⟨h1, h2⟩ := hd d List.mem_cons_self
    have hs : ∀ x, (e0.set i (.v d)).set i x = e0.set i x := fun x => by rw [List.set_set]
    obtain ⟨e', h3, h4⟩ := lc_pure ds (e0.set i (.v d)) e0 hs hi fun d' hd' => hd d' (List.mem_cons_of_mem _ hd')
    refine ⟨e', ?_, h4⟩
    unfold lcGo
    have hw : asgT (.n i) d (wipeE e [i]) = some (e0.set i (.v d)) := by
      show some ((e.set i Sl.no).set i (.v d)) = _
      rw [h, List.set_set]
    rw [hw]
    cases hp : p d with
    | false =>
      rw [hp] at h1
      simp only [h1, h3, List.filter_cons, hp]
      rfl
    | true =>
      rw [hp] at h1
      obtain ⟨r, h5, h6⟩ := h2 hp
      simp only [h1, h5, h6, h3, List.filter_cons, hp, if_true, List.map_cons]
theorem back1 {i : Nat} {e e1 : En} (h : ∀ x, e.set i x = e1.set i x) (hi : i < e1.length) : backE e e1 [i] = e1 := by
  show e.set i (e1[i]?.getD .no) = e1
  rw [h, List.getElem?_eq_getElem hi]
  exact List.set_getElem_self hi
/-- [elt for i in src if test] where nothing else changes -/
theorem ev_lc {Φ : Ph} {ms : Nat → List Md} {s : Src} {i : Nat} {ts : Exs} {elt : Ex} {e : En} {ds : List D} (p : D → Bool) (g : D → D) (hs : evI Φ ms s e = .ok ds none e) (hi : i < e.length) (hl : ((ds.filter p).map g).length ≤ L)
    (hd : ∀ d ∈ ds, evTs Φ ms ts (e.set i (.v d)) = .ok (p d) (e.set i (.v d)) ∧ (p d = true → ∃ r, evE Φ ms elt (e.set i (.v d)) = .ok r (e.set i (.v d)) ∧ toV (e.set i (.v d)) r = some (g d, e.set i (.v d)))) :
    evE Φ ms (.lc s (.n i) [i] ts elt) e = .ok (.o ((ds.filter p).map g)) e := by
  obtain ⟨e', h1, h2⟩ := lc_pure (ft := fun e => evTs Φ ms ts e) (fg := fun e => evE Φ ms elt e) ds e e (fun _ => rfl) hi hd
  simp only [evE, hs, RI.bd, Option.toList_none, List.append_nil, h1, back1 h2 hi]
  rw [if_pos hl]
end Vc

namespace Vc
open PySem PySem.Spec PyProof.Rows L2
def il (l : List Int) : List D := l.map PyData.int
@[simp] theorem il_len {l : List Int} : (il l).length = l.length := List.length_map ..
@[simp] theorem il_get {l : List Int} {i : Nat} : (il l)[i]? = l[i]?.map .int := List.getElem?_map ..
@[simp] theorem il_set {l : List Int} {i : Nat} {x : Int} : (il l).set i (.int x) = il (l.set i x) := by unfold il; rw [List.map_set]
@[simp] theorem il_app {l l' : List Int} : il l ++ il l' = il (l ++ l') := by unfold il; rw [List.map_append]
@[simp] theorem il_app1 {l : List Int} {x : Int} : il l ++ [.int x] = il (l ++ [x]) := by unfold il; rw [List.map_append]; rfl
@[simp] theorem il_rep {n : Nat} {x : Int} : List.replicate n (PyData.int x) = il (List.replicate n x) := by unfold il; rw [List.map_replicate]
@[simp] theorem il_fl {n : Nat} {l : List Int} : (List.replicate n (il l)).flatten = il (List.replicate n l).flatten := by unfold il; rw [List.map_flatten, List.map_replicate]
@[simp] theorem il_ints : ∀ {l : List Int}, intsOf (il l) = some l
  | [] => rfl
  | x :: r => by
    show (intsOf (il r)).map (x :: ·) = _
    rw [il_ints]; rfl
theorem il_lay : ∀ {l : List Int}, PyData.canLayAll0 (il l) = true
  | [] => rfl
  | x :: r => by
    show (PyData.canLay0 (.int x) && PyData.canLayAll0 (il r)) = true
    rw [il_lay]; rfl
theorem il_dep : ∀ {l : List Int}, PyData.depthAll (il l) = 0
  | [] => rfl
  | x :: r => by
    show max (PyData.depth (.int x)) (PyData.depthAll (il r)) = 0
    rw [il_dep (l := r)]
    rfl
theorem okD_il {l : List Int} : okD (.list (il l)) = true := by
  show (PyData.canLayAll0 (il l) && decide (PyData.depthAll (il l) + 1 ≤ 64)) = true
  rw [il_lay, il_dep]; rfl
theorem okD_ilt {l : List Int} : okD (.tuple (il l)) = true := by
  show (PyData.canLayAll0 (il l) && decide (PyData.depthAll (il l) + 1 ≤ 64)) = true
  rw [il_lay, il_dep]; rfl
theorem eqv_il : ∀ {l l' : List Int}, PyData.eqvAll (il l) (il l') = decide (l = l')
  | [], [] => by simp [il, PyData.eqvAll]
  | [], _ :: _ => by simp [il, PyData.eqvAll]
  | _ :: _, [] => by simp [il, PyData.eqvAll]
  | x :: r, y :: r' => by
    show (PyData.eqv (.int x) (.int y) && PyData.eqvAll (il r) (il r')) = _
    rw [eqv_il, Bool.eq_iff_iff]
    simp [PyData.eqv]
@[simp] theorem eqD_il {l l' : List Int} : eqD (.list (il l)) (.list (il l')) = some (decide (l = l')) := by
  show (if (okD (.list (il l)) && okD (.list (il l'))) = true then some (PyData.eqv (.list (il l)) (.list (il l'))) else lenN (.list (il l)) (.list (il l'))) = _
  rw [okD_il, okD_il]
  simp [PyData.eqv, eqv_il]
@[simp] theorem eqD_str {a b : Str} : eqD (.str a) (.str b) = some (decide (a = b)) := id rfl
@[simp] theorem eqD_il0 {l : List Int} : eqD (.list (il l)) (.list []) = some (decide (l = [])) := eqD_il (l' := [])
@[simp] theorem eqD_ilt {l l' : List Int} : eqD (.tuple (il l)) (.tuple (il l')) = some (decide (l = l')) := by
  show (if (okD (.tuple (il l)) && okD (.tuple (il l'))) = true then some (PyData.eqv (.tuple (il l)) (.tuple (il l'))) else none) = _
  rw [okD_ilt, okD_ilt]
  simp [PyData.eqv, eqv_il]
theorem ixOf_in {n : Nat} {i : Int} (h0 : 0 ≤ i) (h1 : i < n) : ixOf n i = some i.toNat := by
  unfold ixOf
  have : ¬ i < 0 := by omega
  simp [this, h0, h1]
theorem ix_il {l : List Int} {i x : Int} (h0 : 0 ≤ i) (h : l[i.toNat]? = some x) : ixD (.list (il l)) (.int i) = some (.v (.int x)) := by
  have h1 : i.toNat < l.length := (List.getElem?_eq_some_iff.mp h).1
  rw [ixD_l, ixOf_in h0 (by rw [il_len]; omega)]
  simp [h]
/-- some entry of a list of integers -/
theorem ix_pick (l : List Int) {i : Int} (h0 : 0 ≤ i) (h1 : i < l.length) : ∃ x ∈ l, ixD (.list (il l)) (.int i) = some (.v (.int x)) := by
  have : i.toNat < l.length := by omega
  exact ⟨l[i.toNat], List.getElem_mem _, ix_il h0 (List.getElem?_eq_getElem this)⟩
/-- a for over a range -/
theorem ev_for_rng {Φ : Ph} {ms : Nat → List Md} {s : Src} {i : Nat} {b : Sms} {e e1 : En} {lo : Int} {n : Nat} (I : Nat → En → Prop) (hs : evI Φ ms s e = .ok (upto lo n) none e1) (h0 : I 0 e1)
    (st : ∀ (k : Nat) (e : En), k < n → I k e → ∃ e2, (exSs Φ ms b (e.set i (.v (.int (lo + k)))) = .nx e2 ∨ exSs Φ ms b (e.set i (.v (.int (lo + k)))) = .ct e2) ∧ I (k + 1) e2) :
    ∃ e', exS Φ ms (.for s (.n i) b) e = .nx e' ∧ I n e' := by
  obtain ⟨e', h1, h2⟩ := for_rng (i := i) (f := fun e => exSs Φ ms b e) I h0 st
  refine ⟨e', ?_, h2⟩
  rw [exS, hs]
  simp only [RI.bo, Option.toList_none, wipeE, h1]
  rfl
theorem rngOk_of {i j : Int} (h1 : -(2 ^ 62) ≤ i) (h2 : i < 2 ^ 62) (h3 : -(2 ^ 62) ≤ j) (h4 : j < 2 ^ 62) : rngOk i j = true := by
  unfold rngOk
  exact cd_iff.mpr ⟨h1, h2, h3, h4⟩
theorem repOk_of {n : Nat} {k : Int} (h1 : -(2 ^ 63) ≤ k) (h2 : k < 2 ^ 63) (h3 : n * k.toNat ≤ 16777216) : repOk n k = true := by
  unfold repOk
  exact cd_iff.mpr ⟨h1, h2, h3⟩
end Vc
namespace Vc
theorem lenL {n : Nat} (h : n ≤ 16777216) : n ≤ L := by rw [show L = 16777216 by decide +kernel]; exact h
theorem lc_ix {i : Nat} {ft : En → RT} {fg : En → R} {p : Nat → Bool} {g : Nat → D} : ∀ (ds : List D) (k0 : Nat) (e e0 : En), (∀ x, e.set i x = e0.set i x) →
    (∀ k d, ds[k]? = some d → ft (e0.set i (.v d)) = .ok (p (k0 + k)) (e0.set i (.v d)) ∧ (p (k0 + k) = true → ∃ r, fg (e0.set i (.v d)) = .ok r (e0.set i (.v d)) ∧ toV (e0.set i (.v d)) r = some (g (k0 + k), e0.set i (.v d)))) →
    ∃ e', lcGo (.n i) [i] ft fg ds e = .ok (((List.range' k0 ds.length).filter p).map g) e' ∧ ∀ x, e'.set i x = e0.set i x
  | [], k0, e, e0, h, _ => ⟨e, rfl, h⟩
  | d :: ds, k0, e, e0, h, hd => by
    obtain ⟨h1, h2⟩ := hd 0 d rfl
    rw [Nat.add_zero] at h1 h2
    have hs : ∀ x, (e0.set i (.v d)).set i x = e0.set i x := fun x => by rw [List.set_set]
    obtain ⟨e', h3, h4⟩ := lc_ix (p := p) (g := g) ds (k0 + 1) (e0.set i (.v d)) e0 hs fun k d' hd' => by
      have := hd (k + 1) d' (by simpa using hd')
      rw [show k0 + (k + 1) = k0 + 1 + k by omega] at this
      exact this
    refine ⟨e', ?_, h4⟩
    unfold lcGo
    have hw : asgT (.n i) d (wipeE e [i]) = some (e0.set i (.v d)) := by
      show some ((e.set i Sl.no).set i (.v d)) = _
      rw [h, List.set_set]
    rw [hw, List.length_cons, List.range'_succ]
    cases hp : p k0 with
    | false =>
      rw [hp] at h1
      simp only [h1, h3, List.filter_cons, hp]
      rfl
    | true =>
      rw [hp] at h1
      obtain ⟨r, h5, h6⟩ := h2 hp
      simp only [h1, h5, h6, h3, List.filter_cons, hp, if_true, List.map_cons]
/-- [elt for i in src if test] where nothing else changes, by places -/
theorem ev_lcx {Φ : Ph} {ms : Nat → List Md} {s : Src} {i : Nat} {ts : Exs} {elt : Ex} {e : En} {ds : List D} (p : Nat → Bool) (g : Nat → D) (hs : evI Φ ms s e = .ok ds none e) (hi : i < e.length) (hl : ds.length ≤ 16777216)
    (hd : ∀ k d, ds[k]? = some d → evTs Φ ms ts (e.set i (.v d)) = .ok (p k) (e.set i (.v d)) ∧ (p k = true → ∃ r, evE Φ ms elt (e.set i (.v d)) = .ok r (e.set i (.v d)) ∧ toV (e.set i (.v d)) r = some (g k, e.set i (.v d)))) :
    evE Φ ms (.lc s (.n i) [i] ts elt) e = .ok (.o (((List.range ds.length).filter p).map g)) e := by
  obtain ⟨e', h1, h2⟩ := lc_ix (ft := fun e => evTs Φ ms ts e) (fg := fun e => evE Φ ms elt e) (p := p) (g := g) ds 0 e e (fun _ => rfl) (by simpa using hd)
  have hl2 : (((List.range ds.length).filter p).map g).length ≤ L := lenL (by
    have := List.length_filter_le p (List.range ds.length)
    rw [List.length_range] at this
    rw [List.length_map]
    omega)
  rw [← List.range_eq_range'] at h1
  simp only [evE, hs, RI.bd, Option.toList_none, List.append_nil, h1, back1 h2 hi]
  rw [if_pos hl2]
/-- .. without a test -/
theorem ev_lcm {Φ : Ph} {ms : Nat → List Md} {s : Src} {i : Nat} {elt : Ex} {e : En} {ds : List D} (g : Nat → D) (hs : evI Φ ms s e = .ok ds none e) (hi : i < e.length) (hl : ds.length ≤ 16777216)
    (hd : ∀ k d, ds[k]? = some d → ∃ r, evE Φ ms elt (e.set i (.v d)) = .ok r (e.set i (.v d)) ∧ toV (e.set i (.v d)) r = some (g k, e.set i (.v d))) :
    evE Φ ms (.lc s (.n i) [i] .nil elt) e = .ok (.o ((List.range ds.length).map g)) e := by
  rw [ev_lcx (fun _ => true) g hs hi hl fun k d h => ⟨by rw [evTs], fun _ => hd k d h⟩]
  rw [List.filter_eq_self.mpr fun _ _ => rfl]
end Vc
namespace Vc
theorem lc_ix2 {i j : Nat} {ft : En → RT} {fg : En → R} {p : Nat → Bool} {g : Nat → D} (hij : i ≠ j) : ∀ (ds : List D) (k0 : Nat) (e e0 : En), (∀ x y, (e.set i x).set j y = (e0.set i x).set j y) →
    (∀ k d, ds[k]? = some d → ∃ x y, d = .tuple [x, y] ∧ ft ((e0.set i (.v x)).set j (.v y)) = .ok (p (k0 + k)) ((e0.set i (.v x)).set j (.v y)) ∧ (p (k0 + k) = true → ∃ r, fg ((e0.set i (.v x)).set j (.v y)) = .ok r ((e0.set i (.v x)).set j (.v y)) ∧ toV ((e0.set i (.v x)).set j (.v y)) r = some (g (k0 + k), (e0.set i (.v x)).set j (.v y)))) →
    ∃ e', lcGo (.t [i, j]) [i, j] ft fg ds e = .ok (((List.range' k0 ds.length).filter p).map g) e' ∧ ∀ x y, (e'.set i x).set j y = (e0.set i x).set j y
  | [], k0, e, e0, h, _ => ⟨e, rfl, h⟩
  | d :: ds, k0, e, e0, h, hd => by
    obtain ⟨x, y, rfl, h1, h2⟩ := hd 0 d rfl
    rw [Nat.add_zero] at h1 h2
    have two : ∀ (l : En) (a b c d : Sl), (((l.set i a).set j b).set i c).set j d = (l.set i c).set j d := fun l a b c d => by
      rw [List.set_comm _ _ (Ne.symm hij), List.set_set, List.set_set]
    obtain ⟨e', h3, h4⟩ := lc_ix2 (p := p) (g := g) hij ds (k0 + 1) ((e0.set i (.v x)).set j (.v y)) e0 (fun a b => two _ _ _ _ _) fun k d' hd' => by
      have := hd (k + 1) d' (by simpa using hd')
      rw [show k0 + (k + 1) = k0 + 1 + k by omega] at this
      exact this
    refine ⟨e', ?_, h4⟩
    unfold lcGo
    have hw : asgT (.t [i, j]) (.tuple [x, y]) (wipeE e [i, j]) = some ((e0.set i (.v x)).set j (.v y)) := by
      show some ((((e.set j Sl.no).set i Sl.no).set i (.v x)).set j (.v y)) = _
      rw [List.set_set, List.set_comm _ _ (Ne.symm hij), List.set_set, h]
    rw [hw, List.length_cons, List.range'_succ]
    cases hp : p k0 with
    | false =>
      rw [hp] at h1
      simp only [h1, h3, List.filter_cons, hp]
      rfl
    | true =>
      rw [hp] at h1
      obtain ⟨r, h5, h6⟩ := h2 hp
      simp only [h1, h5, h6, h3, List.filter_cons, hp, if_true, List.map_cons]
theorem back2' {i j : Nat} {e e1 : En} (h : ∀ x y, (e.set i x).set j y = (e1.set i x).set j y) (hij : i ≠ j) (hi : i < e1.length) (hj : j < e1.length) : backE e e1 [i, j] = e1 := by
  show (e.set j (e1[j]?.getD .no)).set i (e1[i]?.getD .no) = e1
  rw [List.set_comm _ _ (Ne.symm hij), h, List.getElem?_eq_getElem hi, List.getElem?_eq_getElem hj]
  show (e1.set i e1[i]).set j e1[j] = e1
  rw [List.set_getElem_self hi, List.set_getElem_self hj]
/-- [elt for i, j in src if test] where nothing else changes, by places -/
theorem ev_lcx2 {Φ : Ph} {ms : Nat → List Md} {s : Src} {i j : Nat} {ts : Exs} {elt : Ex} {e : En} {ds : List D} (p : Nat → Bool) (g : Nat → D) (hs : evI Φ ms s e = .ok ds none e) (hij : i ≠ j) (hi : i < e.length) (hj : j < e.length) (hl : ds.length ≤ 16777216)
    (hd : ∀ k d, ds[k]? = some d → ∃ x y, d = .tuple [x, y] ∧ evTs Φ ms ts ((e.set i (.v x)).set j (.v y)) = .ok (p k) ((e.set i (.v x)).set j (.v y)) ∧ (p k = true → ∃ r, evE Φ ms elt ((e.set i (.v x)).set j (.v y)) = .ok r ((e.set i (.v x)).set j (.v y)) ∧ toV ((e.set i (.v x)).set j (.v y)) r = some (g k, (e.set i (.v x)).set j (.v y)))) :
    evE Φ ms (.lc s (.t [i, j]) [i, j] ts elt) e = .ok (.o (((List.range ds.length).filter p).map g)) e := by
  obtain ⟨e', h1, h2⟩ := lc_ix2 (ft := fun e => evTs Φ ms ts e) (fg := fun e => evE Φ ms elt e) (p := p) (g := g) hij ds 0 e e (fun _ _ => rfl) (by simpa using hd)
  have hl2 : (((List.range ds.length).filter p).map g).length ≤ L := lenL (by
    have := List.length_filter_le p (List.range ds.length)
    rw [List.length_range] at this
    rw [List.length_map]
    omega)
  rw [← List.range_eq_range'] at h1
  simp only [evE, hs, RI.bd, Option.toList_none, List.append_nil, h1, back2' h2 hij hi hj]
  rw [if_pos hl2]
theorem ev_lcm2 {Φ : Ph} {ms : Nat → List Md} {s : Src} {i j : Nat} {elt : Ex} {e : En} {ds : List D} (g : Nat → D) (hs : evI Φ ms s e = .ok ds none e) (hij : i ≠ j) (hi : i < e.length) (hj : j < e.length) (hl : ds.length ≤ 16777216)
    (hd : ∀ k d, ds[k]? = some d → ∃ x y, d = .tuple [x, y] ∧ ∃ r, evE Φ ms elt ((e.set i (.v x)).set j (.v y)) = .ok r ((e.set i (.v x)).set j (.v y)) ∧ toV ((e.set i (.v x)).set j (.v y)) r = some (g k, (e.set i (.v x)).set j (.v y))) :
    evE Φ ms (.lc s (.t [i, j]) [i, j] .nil elt) e = .ok (.o ((List.range ds.length).map g)) e := by
  rw [ev_lcx2 (fun _ => true) g hs hij hi hj hl fun k d h => by
    obtain ⟨x, y, h1, h2⟩ := hd k d h
    exact ⟨x, y, h1, by rw [evTs], fun _ => h2⟩]
  rw [List.filter_eq_self.mpr fun _ _ => rfl]
end Vc
namespace Vc
open PySem PySem.Spec PyProof.Rows L2
theorem prep_v : ∀ {rs : List RV} {ds : List D} {e e2 : En}, toVs rs e = some (ds, e2) → prep (List.replicate ds.length .v) rs e = some (ds.map .v, e2)
  | [], ds, e, e2, h => by cases h; rfl
  | r :: rs, ds, e, e2, h => by
    obtain ⟨⟨d, e1⟩, h1, h2⟩ := Option.bind_eq_some_iff.mp (show (toV e r).bind _ = _ from h)
    obtain ⟨⟨ds', e3⟩, h3, h4⟩ := Option.map_eq_some_iff.mp h2
    cases h4
    show (toV e r).bind _ = _
    rw [h1]
    show (prep (List.replicate ds'.length .v) rs e1).map _ = _
    rw [prep_v h3]
    rfl
theorem avs_v {e : En} : ∀ {ds : List D}, avs e (List.replicate ds.length .v) (ds.map .v) = some (ds.map .v)
  | [] => rfl
  | d :: ds => by
    show (avs e (List.replicate ds.length .v) (ds.map .v)).map _ = _
    rw [avs_v]; rfl
theorem lent_v : ∀ {ds : List D}, lent (List.replicate ds.length .v) (ds.map RV.v) = []
  | [] => rfl
  | d :: ds => lent_v (ds := ds)
theorem finOk_v : ∀ {n : Nat}, finOk (List.replicate n .v) (List.replicate n .no) = true
  | 0 => rfl
  | n + 1 => finOk_v (n := n)
theorem putB_v {e : En} : ∀ {ds : List D} {n : Nat}, putB (List.replicate n .v) (ds.map .v) (List.replicate n .no) e = e
  | [], 0 => rfl
  | [], n + 1 => rfl
  | d :: ds, 0 => rfl
  | d :: ds, n + 1 => putB_v (ds := ds) (n := n)
theorem callV_v {Φ : Ph} {f : Nat} {rs : List RV} {e e2 : En} {ds : List D} {c : CV} {md : List Md} (hV : toVs rs e = some (ds, e2)) (hm : md = List.replicate ds.length .v) (hΦ : Φ f (ds.map .v) = .rt c (List.replicate ds.length .no)) (hc : ∀ j, c ≠ .p j) :
    callV Φ f md rs e = .ok (cvR c) e2 := by
  unfold callV
  rw [hm, prep_v hV]
  simp only [avs_v, lent_v, hΦ, finOk_v, putB_v]
  cases c with
  | v d => simp [backR, cvR]
  | o d => simp [backR, cvR]
  | p j => exact absurd rfl (hc j)
/-- f(..) of plain data -/
theorem ev_call {Φ : Ph} {ms : Nat → List Md} {f : Nat} {es : Exs} {rs : List RV} {e e1 e2 : En} {ds : List D} {c : CV} (hL : evL Φ ms es e = .ok rs e1) (hV : toVs rs e1 = some (ds, e2)) (hm : ms f = List.replicate ds.length .v)
    (hΦ : Φ f (ds.map .v) = .rt c (List.replicate ds.length .no)) (hc : ∀ j, c ≠ .p j := by intro j h; cases h) : evE Φ ms (.call f es) e = .ok (cvR c) e2 := by
  rw [evE, hL]
  exact callV_v hV hm hΦ hc
/-- .. of arguments that change nothing -/
theorem ev_callp {Φ : Ph} {ms : Nat → List Md} {f : Nat} {es : Exs} {rs : List RV} {e : En} {ds : List D} {c : CV} (hL : evL Φ ms es e = .ok rs e) (hV : toVs rs e = some (ds, e)) (hm : ms f = List.replicate ds.length .v)
    (hΦ : Φ f (ds.map .v) = .rt c (List.replicate ds.length .no)) (hc : ∀ j, c ≠ .p j := by intro j h; cases h) : evE Φ ms (.call f es) e = .ok (cvR c) e := ev_call hL hV hm hΦ hc
theorem ev_callKp {Φ : Ph} {ms : Nat → List Md} {f : Nat} {kes : Exs} {pm : List Nat} {rs rs2 : List RV} {e : En} {ds : List D} {c : CV} (hL : evL Φ ms kes e = .ok rs e) (hp : permd pm rs = some rs2) (hV : toVs rs2 e = some (ds, e)) (hm : ms f = List.replicate ds.length .v)
    (hΦ : Φ f (ds.map .v) = .rt c (List.replicate ds.length .no)) (hc : ∀ j, c ≠ .p j := by intro j h; cases h) : evE Φ ms (.callK f .nil kes pm) e = .ok (cvR c) e := by
  rw [evE, evL]
  simp only [R.bd, RL.bd, hL, hp, List.nil_append]
  exact callV_v hV hm hΦ hc
theorem ev_callK {Φ : Ph} {ms : Nat → List Md} {f : Nat} {es kes : Exs} {pm : List Nat} {rs rs' rs2 : List RV} {e e1 e2 e3 : En} {ds : List D} {c : CV} (hL : evL Φ ms es e = .ok rs e1) (hL' : evL Φ ms kes e1 = .ok rs' e2) (hp : permd pm (rs ++ rs') = some rs2) (hV : toVs rs2 e2 = some (ds, e3)) (hm : ms f = List.replicate ds.length .v)
    (hΦ : Φ f (ds.map .v) = .rt c (List.replicate ds.length .no)) (hc : ∀ j, c ≠ .p j := by intro j h; cases h) : evE Φ ms (.callK f es kes pm) e = .ok (cvR c) e3 := by
  rw [evE, hL]
  simp only [R.bd, RL.bd, hL', hp]
  exact callV_v hV hm hΦ hc
@[simp] theorem cvR_v {d : D} : cvR (.v d) = .v d := rfl
@[simp] theorem cvR_o {d : List D} : cvR (.o d) = .o d := rfl
/-- a for over enumerate of a list -/
theorem enum_at {ds : List D} {k : Nat} {d : D} (h : (enum ds)[k]? = some d) : ∃ x, ds[k]? = some x ∧ d = .tuple [.int k, x] := by
  unfold enum at h
  rw [List.getElem?_map] at h
  obtain ⟨⟨x, j⟩, h1, rfl⟩ := Option.map_eq_some_iff.mp h
  rw [List.getElem?_zipIdx] at h1
  obtain ⟨y, h2, h3⟩ := Option.map_eq_some_iff.mp h1
  cases h3
  exact ⟨x, h2, by simp⟩
theorem ev_for_enu {Φ : Ph} {ms : Nat → List Md} {s : Src} {i j : Nat} {b : Sms} {e e1 : En} {ds : List D} (I : Nat → En → Prop) (hs : evI Φ ms s e = .ok (enum ds) none e1) (h0 : I 0 e1)
    (st : ∀ (k : Nat) (x : D) (e : En), ds[k]? = some x → I k e → ∃ e2, (exSs Φ ms b ((e.set i (.v (.int k))).set j (.v x)) = .nx e2 ∨ exSs Φ ms b ((e.set i (.v (.int k))).set j (.v x)) = .ct e2) ∧ I (k + 1) e2) :
    ∃ e', exS Φ ms (.for s (.t [i, j]) b) e = .nx e' ∧ I ds.length e' := by
  obtain ⟨e', h1, h2⟩ := for_inv (tg := .t [i, j]) (f := fun e => exSs Φ ms b e) I (enum ds) 0 e1 h0 fun k d e hd hi => by
    rw [Nat.zero_add] at *
    obtain ⟨x, h1, rfl⟩ := enum_at hd
    exact ⟨_, rfl, st k x e h1 hi⟩
  refine ⟨e', ?_, by simpa [enum] using h2⟩
  rw [exS, hs]
  simp only [RI.bo, Option.toList_none, wipeE, h1]
  rfl
/-- a for over a list -/
theorem ev_for_it {Φ : Ph} {ms : Nat → List Md} {s : Src} {i : Nat} {b : Sms} {e e1 : En} {ds : List D} (I : Nat → En → Prop) (hs : evI Φ ms s e = .ok ds none e1) (h0 : I 0 e1)
    (st : ∀ (k : Nat) (x : D) (e : En), ds[k]? = some x → I k e → ∃ e2, (exSs Φ ms b (e.set i (.v x)) = .nx e2 ∨ exSs Φ ms b (e.set i (.v x)) = .ct e2) ∧ I (k + 1) e2) :
    ∃ e', exS Φ ms (.for s (.n i) b) e = .nx e' ∧ I ds.length e' := by
  obtain ⟨e', h1, h2⟩ := for_inv (tg := .n i) (f := fun e => exSs Φ ms b e) I ds 0 e1 h0 fun k d e hd hi => by
    rw [Nat.zero_add] at *
    exact ⟨_, rfl, st k d e hd hi⟩
  refine ⟨e', ?_, by simpa using h2⟩
  rw [exS, hs]
  simp only [RI.bo, Option.toList_none, wipeE, h1]
  rfl
/-- [elt for i, x in enumerate(l)] where nothing else changes -/
theorem lc_pure2 {i j : Nat} {ft : En → RT} {fg : En → R} {p : D → Bool} {g : D → D} : ∀ (ds : List D) (e e0 : En), (∀ x y, (e.set i x).set j y = (e0.set i x).set j y) → i ≠ j → i < e0.length → j < e0.length →
    (∀ d ∈ ds, ∃ x y, d = .tuple [x, y] ∧ ft ((e0.set i (.v x)).set j (.v y)) = .ok (p d) ((e0.set i (.v x)).set j (.v y)) ∧ (p d = true → ∃ r, fg ((e0.set i (.v x)).set j (.v y)) = .ok r ((e0.set i (.v x)).set j (.v y)) ∧ toV ((e0.set i (.v x)).set j (.v y)) r = some (g d, (e0.set i (.v x)).set j (.v y)))) →
    ∃ e', lcGo (.t [i, j]) [i, j] ft fg ds e = .ok ((ds.filter p).map g) e' ∧ ∀ x y, (e'.set i x).set j y = (e0.set i x).set j y
  | [], e, e0, h, _, _, _, _ => ⟨e, rfl, h⟩
  | d :: ds, e, e0, h, hij, hi, hj, hd => by
    obtain ⟨x, y, rfl, h1, h2⟩ := hd d List.mem_cons_self
    have two : ∀ (l : En) (a b c d : Sl), (((l.set i a).set j b).set i c).set j d = (l.set i c).set j d := fun l a b c d => by
      rw [List.set_comm _ _ (Ne.symm hij), List.set_set, List.set_set]
    obtain ⟨e', h3, h4⟩ := lc_pure2 (p := p) (g := g) ds ((e0.set i (.v x)).set j (.v y)) e0 (fun a b => two _ _ _ _ _) hij hi hj fun d' hd' => hd d' (List.mem_cons_of_mem _ hd')
    refine ⟨e', ?_, h4⟩
    unfold lcGo
    have hw : asgT (.t [i, j]) (.tuple [x, y]) (wipeE e [i, j]) = some ((e0.set i (.v x)).set j (.v y)) := by
      show some ((((e.set j Sl.no).set i Sl.no).set i (.v x)).set j (.v y)) = _
      rw [List.set_set, List.set_comm _ _ (Ne.symm hij), List.set_set, h]
    rw [hw]
    cases hp : p (.tuple [x, y]) with
    | false =>
      rw [hp] at h1
      simp only [h1, h3, List.filter_cons, hp]
      rfl
    | true =>
      rw [hp] at h1
      obtain ⟨r, h5, h6⟩ := h2 hp
      simp only [h1, h5, h6, h3, List.filter_cons, hp, if_true, List.map_cons]
theorem back2 {i j : Nat} {e e1 : En} (h : ∀ x y, (e.set i x).set j y = (e1.set i x).set j y) (hij : i ≠ j) (hi : i < e1.length) (hj : j < e1.length) : backE e e1 [i, j] = e1 := by
  show (e.set j (e1[j]?.getD .no)).set i (e1[i]?.getD .no) = e1
  rw [List.set_comm _ _ (Ne.symm hij), h, List.getElem?_eq_getElem hi, List.getElem?_eq_getElem hj]
  show (e1.set i e1[i]).set j e1[j] = e1
  rw [List.set_getElem_self hi, List.set_getElem_self hj]
theorem ev_lc2 {Φ : Ph} {ms : Nat → List Md} {s : Src} {i j : Nat} {ts : Exs} {elt : Ex} {e : En} {ds : List D} (p : D → Bool) (g : D → D) (hs : evI Φ ms s e = .ok ds none e) (hij : i ≠ j) (hi : i < e.length) (hj : j < e.length) (hl : ((ds.filter p).map g).length ≤ L)
    (hd : ∀ d ∈ ds, ∃ x y, d = .tuple [x, y] ∧ evTs Φ ms ts ((e.set i (.v x)).set j (.v y)) = .ok (p d) ((e.set i (.v x)).set j (.v y)) ∧ (p d = true → ∃ r, evE Φ ms elt ((e.set i (.v x)).set j (.v y)) = .ok r ((e.set i (.v x)).set j (.v y)) ∧ toV ((e.set i (.v x)).set j (.v y)) r = some (g d, (e.set i (.v x)).set j (.v y)))) :
    evE Φ ms (.lc s (.t [i, j]) [i, j] ts elt) e = .ok (.o ((ds.filter p).map g)) e := by
  obtain ⟨e', h1, h2⟩ := lc_pure2 (ft := fun e => evTs Φ ms ts e) (fg := fun e => evE Φ ms elt e) ds e e (fun _ _ => rfl) hij hi hj hd
  simp only [evE, hs, RI.bd, Option.toList_none, List.append_nil, h1, back2 h2 hij hi hj]
  rw [if_pos hl]
end Vc

namespace Vc
@[simp] theorem enum_ln {ds : List D} : (enum ds).length = ds.length := by simp [enum]
theorem enum_il {fs : List Int} {k : Nat} {d : D} (h : (enum (il fs))[k]? = some d) : ∃ x, fs[k]? = some x ∧ d = .tuple [.int k, .int x] := by
  obtain ⟨x, h1, rfl⟩ := enum_at h
  rw [il_get] at h1
  obtain ⟨y, hy, rfl⟩ := Option.map_eq_some_iff.mp h1
  exact ⟨y, hy, rfl⟩
end Vc

namespace Vc
open PySem PySem.Spec PyProof.Rows L2
theorem int_short {m : Nat} {i : Int} (h : Bd m i) : (PyData.shown (.int i)).length ≤ m + 2 := by
  have e := int_text_length_le (a := i) (k := m + 1) (by omega) (by have := h.lg; omega)
  show (Str.ofString (toString i)).length ≤ _
  rw [PySem.ofString_length]
  omega
theorem il_short {m : Nat} : ∀ {l : List Int}, (∀ x ∈ l, Bd m x) → PyData.leavesShortAll (m + 2) (il l) = true
  | [], _ => rfl
  | x :: r, h => by
    show (decide ((PyData.shown (.int x)).length ≤ m + 2) && PyData.leavesShortAll (m + 2) (il r)) = true
    rw [il_short fun y hy => h y (List.mem_cons_of_mem _ hy), decide_eq_true (int_short (h x List.mem_cons_self))]
    rfl
theorem il_bulk : ∀ {l : List Int}, PyData.bulkAll (il l) = l.length
  | [] => rfl
  | x :: r => by
    show PyData.bulk (.int x) + 1 + PyData.bulkAll (il r) = r.length + 1
    rw [il_bulk (l := r)]
    show 0 + 1 + r.length = _
    omega
theorem il_showable {m : Nat} (hm : m < 1920) : ∀ {l : List Int}, (∀ x ∈ l, Bd m x) → PyData.showableAll (il l) = true
  | [], _ => rfl
  | x :: r, h => by
    show (decide (x.natAbs.log2 < 1920) && PyData.showableAll (il r)) = true
    rw [il_showable hm fun y hy => h y (List.mem_cons_of_mem _ hy), decide_eq_true (Nat.lt_of_le_of_lt (h x List.mem_cons_self).lg hm)]
    rfl
theorem il_nodict : ∀ {l : List Int}, PyData.hasDictAll (il l) = false
  | [] => rfl
  | x :: r => by
    show (PyData.hasDict (.int x) || PyData.hasDictAll (il r)) = false
    rw [il_nodict (l := r)]
    rfl
theorem show_il {m : Nat} {l : List Int} (h : ∀ x ∈ l, Bd m x) (hm : 6 ≤ m) (hm2 : m < 1920) (hl : (m + 4) * l.length ≤ 16000000) : showOk (.list (il l)) = true := by
  have q := PyData.shown_le_bulk (m + 2) (by omega) (.list (il l)) (il_short h)
  have q2 : PyData.bulk (.list (il l)) = l.length := il_bulk
  rw [q2, show m + 2 + 2 = m + 4 by omega] at q
  have e : PySem.sizeLine = 16777216 := by decide +kernel
  unfold showOk
  rw [show PyData.showable (.list (il l)) = true from il_showable hm2 h, show PyData.hasDict (.list (il l)) = false from il_nodict, cd_iff.mpr (by show _ ≤ PySem.sizeLine; rw [e]; omega), cd_iff.mpr (by show PyData.depthAll (il l) + 1 ≤ 64; rw [il_dep]; decide)]
  rfl
theorem show_ilt {m : Nat} {l : List Int} (h : ∀ x ∈ l, Bd m x) (hm : 6 ≤ m) (hm2 : m < 1920) (hl : (m + 4) * l.length ≤ 16000000) : showOk (.tuple (il l)) = true := by
  have q := PyData.shown_le_bulk (m + 2) (by omega) (.tuple (il l)) (il_short h)
  have q2 : PyData.bulk (.tuple (il l)) = l.length := il_bulk
  rw [q2, show m + 2 + 2 = m + 4 by omega] at q
  have e : PySem.sizeLine = 16777216 := by decide +kernel
  unfold showOk
  rw [show PyData.showable (.tuple (il l)) = true from il_showable hm2 h, show PyData.hasDict (.tuple (il l)) = false from il_nodict, cd_iff.mpr (by show _ ≤ PySem.sizeLine; rw [e]; omega), cd_iff.mpr (by show PyData.depthAll (il l) + 1 ≤ 64; rw [il_dep]; decide)]
  rfl
end Vc

namespace Vc
open PySem PySem.Spec PyProof.Rows L2
theorem cut_to {α : Type} {xs : List α} {n : Nat} : cutL xs none (some (n : Int)) = xs.take n := by
  unfold cutL
  rw [HT.sIx_none, HT.sIx_nat, List.drop_zero, Nat.sub_zero]
  by_cases h : n ≤ xs.length
  · rw [Nat.min_eq_left h]
  · rw [Nat.min_eq_right (by omega), List.take_length, List.take_of_length_le (by omega)]
theorem cut_from {α : Type} {xs : List α} {n : Nat} : cutL xs (some (n : Int)) none = xs.drop n := by
  unfold cutL
  rw [HT.sIx_none, HT.sIx_nat]
  by_cases h : n ≤ xs.length
  · rw [Nat.min_eq_left h, List.take_of_length_le (by rw [List.length_drop]; omega)]
  · rw [Nat.min_eq_right (by omega), List.drop_length, List.drop_of_length_le (by omega), List.take_nil]
theorem cut_mid {α : Type} {xs : List α} {a b : Nat} : cutL xs (some (a : Int)) (some (b : Int)) = (xs.drop a).take (b - a) := by
  unfold cutL
  rw [HT.sIx_nat, HT.sIx_nat]
  by_cases h : a ≤ xs.length
  · rw [Nat.min_eq_left h]
    by_cases h2 : b ≤ xs.length
    · rw [Nat.min_eq_left h2]
    · rw [Nat.min_eq_right (by omega), List.take_of_length_le (by rw [List.length_drop]; omega), List.take_of_length_le (by rw [List.length_drop]; omega)]
  · rw [Nat.min_eq_right (show xs.length ≤ a by omega), List.drop_length, List.drop_of_length_le (by omega)]; simp
theorem il_take {l : List Int} {n : Nat} : (il l).take n = il (l.take n) := by unfold il; rw [List.map_take]
theorem il_drop {l : List Int} {n : Nat} : (il l).drop n = il (l.drop n) := by unfold il; rw [List.map_drop]
@[simp] theorem il_app2 {l : List Int} {x y : Int} : il l ++ [.int x, .int y] = il (l ++ [x, y]) := by unfold il; rw [List.map_append]; rfl
end Vc

namespace Vc
theorem zz_evl {Φ : Ph} {ms : Nat → List Md} {e : En} {a : Ex} {r : Exs} : evL Φ ms (.cons a r) e = (evE Φ ms a e).bl fun x e1 => (evL Φ ms r e1).bl fun xs e2 => .ok (x :: xs) e2 := by simp
end Vc

namespace Vc
theorem zz_exs {Φ : Ph} {ms : Nat → List Md} {e : En} {a : Sm} {r : Sms} : exSs Φ ms (.cons a r) e = (exS Φ ms a e).bd fun e1 => exSs Φ ms r e1 := by simp
end Vc
end
section
set_option Elab.async false
set_option linter.all false
set_option maxRecDepth 100000
namespace Vc
open PySem PySem.Spec PyProof.Rows L2
-- is_whole: thing
def b_is_whole : Sms := (.cons (.ret (.bop true (.cons (.isi (.var 0) .int) (.cons (.nt (.isi (.var 0) .bool)) (.nil))))) (
  .nil))
def d_is_whole : Df := ⟨[.v], 1, b_is_whole⟩
abbrev i_is_whole : Nat := 2
structure H_is_whole (T : Nat → Option Df) : Prop where
  h : T 2 = some d_is_whole
theorem H_is_whole.ms {T : Nat → Option Df} (x : H_is_whole T) : msOf T 2 = [.v] := ms_at x.h
theorem H_is_whole.go {T : Nat → Option Df} {n : Nat} {as : List AV} (x : H_is_whole T) : run T (msOf T) (n + 1) 2 as = runDf (run T (msOf T) n) (msOf T) d_is_whole as := run_at x.h

-- law_draw: well many found stirred
def b_law_draw : Sms := (.cons (.ite (.cmp .gt (.ix (.var 0) (.int 0)) (.int 0)) (.cons (.asg 2 false (.op .mod (.bi .int (.cons (.ix (.var 0) (.int 0)) (.nil))) (.var 1))) (
   .cons (.six (.var 0) (.int 0) (.op .fdiv (.ix (.var 0) (.int 0)) (.var 1))) (
   .cons (.ret (.var 2)) (
   .nil)))) .nil) (
  .cons (.six (.var 0) (.int 2) (.op .add (.ix (.var 0) (.int 2)) (.int 1))) (
  .cons (.asg 3 false (.op .mod (.bi .int (.cons (.op .pow (.op .add (.ix (.var 0) (.int 1)) (.op .mul (.int 15485863) (.ix (.var 0) (.int 2)))) (.int 5)) (.nil))) (.op .add (.op .pow (.int 10) (.int 43)) (.int 63)))) (
  .cons (.asg 3 false (.op .mod (.bi .int (.cons (.op .pow (.op .add (.var 3) (.op .mul (.int 32452843) (.ix (.var 0) (.int 2)))) (.int 3)) (.nil))) (.op .add (.op .pow (.int 10) (.int 41)) (.int 61)))) (
  .cons (.ret (.op .mod (.bi .int (.cons (.op .fdiv (.var 3) (.op .pow (.int 10) (.int 9))) (.nil))) (.var 1))) (
  .nil))))))
def d_law_draw : Df := ⟨[.m, .v], 4, b_law_draw⟩
abbrev i_law_draw : Nat := 10
structure H_law_draw (T : Nat → Option Df) : Prop where
  h : T 10 = some d_law_draw
theorem H_law_draw.ms {T : Nat → Option Df} (x : H_law_draw T) : msOf T 10 = [.m, .v] := ms_at x.h
theorem H_law_draw.go {T : Nat → Option Df} {n : Nat} {as : List AV} (x : H_law_draw T) : run T (msOf T) (n + 1) 10 as = runDf (run T (msOf T) n) (msOf T) d_law_draw as := run_at x.h

-- law_well: script k cell
def b_law_well : Sms := (.cons (.asg 2 false (.ite (.cmp .lt (.var 1) (.bi .len (.cons (.var 0) (.nil)))) (.bi .abs (.cons (.bi .int (.cons (.ix (.var 0) (.var 1)) (.nil))) (.nil))) (.op .mul (.int 41) (.var 1)))) (
  .cons (.ret (.lst (.cons (.bi .max (.cons (.int 0) (.cons (.op .sub (.var 2) (.op .pow (.int 10) (.int 18))) (.nil)))) (.cons (.op .add (.op .add (.op .mod (.bi .int (.cons (.var 2) (.nil))) (.op .add (.op .pow (.int 10) (.int 36)) (.int 67))) (.op .mul (.int 7) (.var 1))) (.int 1)) (.cons (.int 0) (.nil)))))) (
  .nil)))
def d_law_well : Df := ⟨[.f, .v], 3, b_law_well⟩
abbrev i_law_well : Nat := 16
structure H_law_well (T : Nat → Option Df) : Prop where
  h : T 16 = some d_law_well
theorem H_law_well.ms {T : Nat → Option Df} (x : H_law_well T) : msOf T 16 = [.f, .v] := ms_at x.h
theorem H_law_well.go {T : Nat → Option Df} {n : Nat} {as : List AV} (x : H_law_well T) : run T (msOf T) (n + 1) 16 as = runDf (run T (msOf T) n) (msOf T) d_law_well as := run_at x.h

-- law_dip: pot many found mixed
def b_law_dip : Sms := (.cons (.ite (.cmp .gt (.ix (.var 0) (.int 0)) (.int 0)) (.cons (.asg 2 false (.op .mod (.bi .int (.cons (.ix (.var 0) (.int 0)) (.nil))) (.var 1))) (
   .cons (.six (.var 0) (.int 0) (.op .fdiv (.ix (.var 0) (.int 0)) (.var 1))) (
   .cons (.ret (.var 2)) (
   .nil)))) .nil) (
  .cons (.six (.var 0) (.int 2) (.op .add (.ix (.var 0) (.int 2)) (.int 1))) (
  .cons (.asg 3 false (.op .mod (.bi .int (.cons (.op .pow (.op .add (.ix (.var 0) (.int 1)) (.op .mul (.int 86028121) (.ix (.var 0) (.int 2)))) (.int 3)) (.nil))) (.op .add (.op .pow (.int 10) (.int 41)) (.int 9)))) (
  .cons (.asg 3 false (.op .mod (.bi .int (.cons (.op .pow (.op .add (.var 3) (.op .mul (.int 179424673) (.ix (.var 0) (.int 2)))) (.int 3)) (.nil))) (.op .add (.op .pow (.int 10) (.int 39)) (.int 57)))) (
  .cons (.ret (.op .mod (.bi .int (.cons (.op .fdiv (.var 3) (.op .pow (.int 10) (.int 7))) (.nil))) (.var 1))) (
  .nil))))))
def d_law_dip : Df := ⟨[.m, .v], 4, b_law_dip⟩
abbrev i_law_dip : Nat := 30
structure H_law_dip (T : Nat → Option Df) : Prop where
  h : T 30 = some d_law_dip
theorem H_law_dip.ms {T : Nat → Option Df} (x : H_law_dip T) : msOf T 30 = [.m, .v] := ms_at x.h
theorem H_law_dip.go {T : Nat → Option Df} {n : Nat} {as : List AV} (x : H_law_dip T) : run T (msOf T) (n + 1) 30 as = runDf (run T (msOf T) n) (msOf T) d_law_dip as := run_at x.h

-- Live_row: self self.numbers self.news
def b_Live_row : Sms := (.cons (.ret (.bi .list (.cons (.atr 1 0 "numbers") (.nil)))) (
  .nil))
def d_Live_row : Df := ⟨[.q, .m, .m], 3, b_Live_row⟩
abbrev i_Live_row : Nat := 300
structure H_Live_row (T : Nat → Option Df) : Prop where
  h : T 300 = some d_Live_row
theorem H_Live_row.ms {T : Nat → Option Df} (x : H_Live_row T) : msOf T 300 = [.q, .m, .m] := ms_at x.h
theorem H_Live_row.go {T : Nat → Option Df} {n : Nat} {as : List AV} (x : H_Live_row T) : run T (msOf T) (n + 1) 300 as = runDf (run T (msOf T) n) (msOf T) d_Live_row as := run_at x.h

-- least_coming: news size place number
def c_least_coming_1 : Ex := .lc (.enu false (.var 0)) (.t [2, 3]) [2, 3] (.cons (.cmp .eq (.op .mod (.var 1) (.op .add (.var 2) (.int 1))) (.int 0)) (.nil)) (.var 3)
def b_least_coming : Sms := (.cons (.asg 1 false (.op .add (.bi .len (.cons (.var 0) (.nil))) (.int 1))) (
  .cons (.ret (.bi .sum (.cons c_least_coming_1 (.nil)))) (
  .nil)))
def d_least_coming : Df := ⟨[.v], 4, b_least_coming⟩
abbrev i_least_coming : Nat := 302
structure H_least_coming (T : Nat → Option Df) : Prop where
  h : T 302 = some d_least_coming
theorem H_least_coming.ms {T : Nat → Option Df} (x : H_least_coming T) : msOf T 302 = [.v] := ms_at x.h
theorem H_least_coming.go {T : Nat → Option Df} {n : Nat} {as : List AV} (x : H_least_coming T) : run T (msOf T) (n + 1) 302 as = runDf (run T (msOf T) n) (msOf T) d_least_coming as := run_at x.h

-- Live_coming: self self.numbers self.news
def b_Live_coming : Sms := (.cons (.ret (.tup (.cons (.callB 302 (.cons (.atr 2 0 "news") (.nil))) (.cons (.op .add (.bi .len (.cons (.atr 1 0 "numbers") (.nil))) (.int 1)) (.nil))))) (
  .nil))
def d_Live_coming : Df := ⟨[.q, .m, .m], 3, b_Live_coming⟩
abbrev i_Live_coming : Nat := 303
structure H_Live_coming (T : Nat → Option Df) : Prop where
  h : T 303 = some d_Live_coming
  least_coming : H_least_coming T
theorem H_Live_coming.ms {T : Nat → Option Df} (x : H_Live_coming T) : msOf T 303 = [.q, .m, .m] := ms_at x.h
theorem H_Live_coming.go {T : Nat → Option Df} {n : Nat} {as : List AV} (x : H_Live_coming T) : run T (msOf T) (n + 1) 303 as = runDf (run T (msOf T) n) (msOf T) d_Live_coming as := run_at x.h

-- Live_rings: self self.numbers self.news place number
def c_Live_rings_1 : Ex := .lc (.enu true (.atr 2 0 "news")) (.t [3, 4]) [3, 4] .nil (.op .fdiv (.var 4) (.op .add (.var 3) (.int 1)))
def b_Live_rings : Sms := (.cons (.ret c_Live_rings_1) (
  .nil))
def d_Live_rings : Df := ⟨[.q, .m, .m], 5, b_Live_rings⟩
abbrev i_Live_rings : Nat := 305
structure H_Live_rings (T : Nat → Option Df) : Prop where
  h : T 305 = some d_Live_rings
theorem H_Live_rings.ms {T : Nat → Option Df} (x : H_Live_rings T) : msOf T 305 = [.q, .m, .m] := ms_at x.h
theorem H_Live_rings.go {T : Nat → Option Df} {n : Nat} {as : List AV} (x : H_Live_rings T) : run T (msOf T) (n + 1) 305 as = runDf (run T (msOf T) n) (msOf T) d_Live_rings as := run_at x.h

-- Live___len__: self self.numbers self.news
def b_Live___len__ : Sms := (.cons (.ret (.bi .len (.cons (.atr 1 0 "numbers") (.nil)))) (
  .nil))
def d_Live___len__ : Df := ⟨[.q, .m, .m], 3, b_Live___len__⟩
abbrev i_Live___len__ : Nat := 306
structure H_Live___len__ (T : Nat → Option Df) : Prop where
  h : T 306 = some d_Live___len__
theorem H_Live___len__.ms {T : Nat → Option Df} (x : H_Live___len__ T) : msOf T 306 = [.q, .m, .m] := ms_at x.h
theorem H_Live___len__.go {T : Nat → Option Df} {n : Nat} {as : List AV} (x : H_Live___len__ T) : run T (msOf T) (n + 1) 306 as = runDf (run T (msOf T) n) (msOf T) d_Live___len__ as := run_at x.h

-- Live_things: self self.numbers self.news
def b_Live_things : Sms := (.cons (.ret (.bi .sum (.cons (.atr 2 0 "news") (.nil)))) (
  .nil))
def d_Live_things : Df := ⟨[.q, .m, .m], 3, b_Live_things⟩
abbrev i_Live_things : Nat := 307
structure H_Live_things (T : Nat → Option Df) : Prop where
  h : T 307 = some d_Live_things
theorem H_Live_things.ms {T : Nat → Option Df} (x : H_Live_things T) : msOf T 307 = [.q, .m, .m] := ms_at x.h
theorem H_Live_things.go {T : Nat → Option Df} {n : Nat} {as : List AV} (x : H_Live_things T) : run T (msOf T) (n + 1) 307 as = runDf (run T (msOf T) n) (msOf T) d_Live_things as := run_at x.h

-- may_come: news number more
def b_may_come : Sms := (.cons (.asg 2 false (.op .sub (.var 1) (.call 302 (.cons (.var 0) (.nil))))) (
  .cons (.ret (.bop true (.cons (.cmp .ge (.var 2) (.int 0)) (.cons (.cmp .eq (.op .mod (.var 2) (.op .add (.bi .len (.cons (.var 0) (.nil))) (.int 1))) (.int 0)) (.nil))))) (
  .nil)))
def d_may_come : Df := ⟨[.v, .v], 3, b_may_come⟩
abbrev i_may_come : Nat := 310
structure H_may_come (T : Nat → Option Df) : Prop where
  h : T 310 = some d_may_come
  least_coming : H_least_coming T
theorem H_may_come.ms {T : Nat → Option Df} (x : H_may_come T) : msOf T 310 = [.v, .v] := ms_at x.h
theorem H_may_come.go {T : Nat → Option Df} {n : Nat} {as : List AV} (x : H_may_come T) : run T (msOf T) (n + 1) 310 as = runDf (run T (msOf T) n) (msOf T) d_may_come as := run_at x.h

-- Live_put: self number self.numbers self.news
def b_Live_put : Sms := (.cons (.ex (.mut .append (.atr 3 0 "news") (.cons (.op .sub (.var 1) (.callB 302 (.cons (.atr 3 0 "news") (.nil)))) (.nil)))) (
  .cons (.ex (.mut .append (.atr 2 0 "numbers") (.cons (.var 1) (.nil)))) (
  .nil)))
def d_Live_put : Df := ⟨[.q, .v, .m, .m], 4, b_Live_put⟩
abbrev i_Live_put : Nat := 311
structure H_Live_put (T : Nat → Option Df) : Prop where
  h : T 311 = some d_Live_put
  least_coming : H_least_coming T
theorem H_Live_put.ms {T : Nat → Option Df} (x : H_Live_put T) : msOf T 311 = [.q, .v, .m, .m] := ms_at x.h
theorem H_Live_put.go {T : Nat → Option Df} {n : Nat} {as : List AV} (x : H_Live_put T) : run T (msOf T) (n + 1) 311 as = runDf (run T (msOf T) n) (msOf T) d_Live_put as := run_at x.h

-- Live_tell: self number self.numbers self.news
def b_Live_tell : Sms := (.cons (.ite (.nt (.call 2 (.cons (.var 1) (.nil)))) (.cons (.raise 11 .nil) (
   .nil)) .nil) (
  .cons (.ite (.nt (.callB 310 (.cons (.atr 3 0 "news") (.cons (.var 1) (.nil))))) (.cons (.raise 18 (.cons (.op .add (.bi .len (.cons (.atr 2 0 "numbers") (.nil))) (.int 1)) (.nil))) (
   .nil)) .nil) (
  .cons (.ex (.callQ 1 311 (.cons (.obj 0 2) (.cons (.var 1) (.nil))) [2, 3])) (
  .nil))))
def d_Live_tell : Df := ⟨[.q, .v, .m, .m], 4, b_Live_tell⟩
abbrev i_Live_tell : Nat := 312
structure H_Live_tell (T : Nat → Option Df) : Prop where
  h : T 312 = some d_Live_tell
  is_whole : H_is_whole T
  may_come : H_may_come T
  Live_put : H_Live_put T
theorem H_Live_tell.ms {T : Nat → Option Df} (x : H_Live_tell T) : msOf T 312 = [.q, .v, .m, .m] := ms_at x.h
theorem H_Live_tell.go {T : Nat → Option Df} {n : Nat} {as : List AV} (x : H_Live_tell T) : run T (msOf T) (n + 1) 312 as = runDf (run T (msOf T) n) (msOf T) d_Live_tell as := run_at x.h

-- Live_lay: self count self.numbers self.news
def b_Live_lay : Sms := (.cons (.ite (.bop false (.cons (.nt (.call 2 (.cons (.var 1) (.nil)))) (.cons (.cmp .lt (.var 1) (.int 0)) (.nil)))) (.cons (.raise 15 .nil) (
   .nil)) .nil) (
  .cons (.ex (.callQ 1 311 (.cons (.obj 0 2) (.cons (.op .add (.callB 302 (.cons (.atr 3 0 "news") (.nil))) (.op .mul (.var 1) (.op .add (.bi .len (.cons (.atr 2 0 "numbers") (.nil))) (.int 1)))) (.nil))) [2, 3])) (
  .nil)))
def d_Live_lay : Df := ⟨[.q, .v, .m, .m], 4, b_Live_lay⟩
abbrev i_Live_lay : Nat := 313
structure H_Live_lay (T : Nat → Option Df) : Prop where
  h : T 313 = some d_Live_lay
  is_whole : H_is_whole T
  Live_put : H_Live_put T
  least_coming : H_least_coming T
theorem H_Live_lay.ms {T : Nat → Option Df} (x : H_Live_lay T) : msOf T 313 = [.q, .v, .m, .m] := ms_at x.h
theorem H_Live_lay.go {T : Nat → Option Df} {n : Nat} {as : List AV} (x : H_Live_lay T) : run T (msOf T) (n + 1) 313 as = runDf (run T (msOf T) n) (msOf T) d_Live_lay as := run_at x.h

-- Live_undo: self self.numbers self.news
def b_Live_undo : Sms := (.cons (.ite (.cmp .eq (.atr 1 0 "numbers") (.lst .nil)) (.cons (.raise 16 .nil) (
   .nil)) .nil) (
  .cons (.ex (.mut .pop (.atr 1 0 "numbers") .nil)) (
  .cons (.ex (.mut .pop (.atr 2 0 "news") .nil)) (
  .nil))))
def d_Live_undo : Df := ⟨[.q, .m, .m], 3, b_Live_undo⟩
abbrev i_Live_undo : Nat := 314
structure H_Live_undo (T : Nat → Option Df) : Prop where
  h : T 314 = some d_Live_undo
theorem H_Live_undo.ms {T : Nat → Option Df} (x : H_Live_undo T) : msOf T 314 = [.q, .m, .m] := ms_at x.h
theorem H_Live_undo.go {T : Nat → Option Df} {n : Nat} {as : List AV} (x : H_Live_undo T) : run T (msOf T) (n + 1) 314 as = runDf (run T (msOf T) n) (msOf T) d_Live_undo as := run_at x.h

-- law_look: live live.numbers live.news
def b_law_look : Sms := (.cons (.ret (.tup (.cons (.callQ 1 300 (.cons (.obj 0 1) (.nil)) [1, 2]) (.cons (.callQ 1 305 (.cons (.obj 0 1) (.nil)) [1, 2]) (.cons (.callQ 1 303 (.cons (.obj 0 1) (.nil)) [1, 2]) (.cons (.callQ 2 307 (.cons (.obj 0 1) (.nil)) [1, 2]) (.cons (.callQ 3 306 (.cons (.obj 0 1) (.nil)) [1, 2]) (.nil)))))))) (
  .nil))
def d_law_look : Df := ⟨[.q, .m, .m], 3, b_law_look⟩
abbrev i_law_look : Nat := 330
structure H_law_look (T : Nat → Option Df) : Prop where
  h : T 330 = some d_law_look
  Live_row : H_Live_row T
  Live_rings : H_Live_rings T
  Live_coming : H_Live_coming T
  Live_things : H_Live_things T
  Live___len__ : H_Live___len__ T
theorem H_law_look.ms {T : Nat → Option Df} (x : H_law_look T) : msOf T 330 = [.q, .m, .m] := ms_at x.h
theorem H_law_look.go {T : Nat → Option Df} {n : Nat} {as : List AV} (x : H_law_look T) : run T (msOf T) (n + 1) 330 as = runDf (run T (msOf T) n) (msOf T) d_law_look as := run_at x.h

-- law_drawn_call: well live live.numbers live.news told
def b_law_drawn_call : Sms := (.cons (.ite (.cmp .eq (.call 10 (.cons (.var 0) (.cons (.int 2) (.nil)))) (.int 0)) (.cons (.ret (.tup (.cons (.int 1) (.cons (.op .sub (.call 10 (.cons (.var 0) (.cons (.int 5) (.nil)))) (.bi .int (.cons (.cmp .eq (.call 10 (.cons (.var 0) (.cons (.int 8) (.nil)))) (.int 0)) (.nil)))) (.nil))))) (
   .nil)) .nil) (
  .cons (.asg 4 false (.callQ 1 303 (.cons (.obj 1 2) (.nil)) [2, 3])) (
  .cons (.ret (.tup (.cons (.int 0) (.cons (.op .add (.op .add (.ix (.var 4) (.int 0)) (.op .mul (.ix (.var 4) (.int 1)) (.call 10 (.cons (.var 0) (.cons (.int 4) (.nil)))))) (.bi .int (.cons (.cmp .eq (.call 10 (.cons (.var 0) (.cons (.int 4) (.nil)))) (.int 0)) (.nil)))) (.nil))))) (
  .nil))))
def d_law_drawn_call : Df := ⟨[.m, .q, .m, .m], 5, b_law_drawn_call⟩
abbrev i_law_drawn_call : Nat := 331
structure H_law_drawn_call (T : Nat → Option Df) : Prop where
  h : T 331 = some d_law_drawn_call
  law_draw : H_law_draw T
  Live_coming : H_Live_coming T
theorem H_law_drawn_call.ms {T : Nat → Option Df} (x : H_law_drawn_call T) : msOf T 331 = [.m, .q, .m, .m] := ms_at x.h
theorem H_law_drawn_call.go {T : Nat → Option Df} {n : Nat} {as : List AV} (x : H_law_drawn_call T) : run T (msOf T) (n + 1) 331 as = runDf (run T (msOf T) n) (msOf T) d_law_drawn_call as := run_at x.h

-- law_done: live way more live.numbers live.news let
def b_law_done : Sms := (.cons (.asg 5 false (.bl true)) (
  .cons (.try (.cons (.ite (.cmp .eq (.var 1) (.int 0)) (.cons (.ex (.callQ 1 312 (.cons (.obj 0 3) (.cons (.var 2) (.nil))) [3, 4])) (
    .nil)) (.cons (.ex (.callQ 1 313 (.cons (.obj 0 3) (.cons (.var 2) (.nil))) [3, 4])) (
    .nil))) (
   .nil)) [⟨0, none, 5, (.bl false)⟩]) (
  .cons (.ret (.var 5)) (
  .nil))))
def d_law_done : Df := ⟨[.q, .v, .v, .m, .m], 6, b_law_done⟩
abbrev i_law_done : Nat := 332
structure H_law_done (T : Nat → Option Df) : Prop where
  h : T 332 = some d_law_done
  Live_tell : H_Live_tell T
  Live_lay : H_Live_lay T
theorem H_law_done.ms {T : Nat → Option Df} (x : H_law_done T) : msOf T 332 = [.q, .v, .v, .m, .m] := ms_at x.h
theorem H_law_done.go {T : Nat → Option Df} {n : Nat} {as : List AV} (x : H_law_done T) : run T (msOf T) (n + 1) 332 as = runDf (run T (msOf T) n) (msOf T) d_law_done as := run_at x.h

-- law_all_undone: live looks live.numbers live.news k ended
def l_law_all_undone_1 : Sms := (.cons (.ite (.bop false (.cons (.cmp .ne (.callQ 0 330 (.cons (.obj 0 2) (.nil)) [2, 3]) (.ix (.var 1) (.op .sub (.op .sub (.bi .len (.cons (.var 1) (.nil))) (.int 1)) (.var 4)))) (.cons (.nisn (.callQ 1 314 (.cons (.obj 0 2) (.nil)) [2, 3])) (.nil)))) (.cons (.ret (.bl false)) (
   .nil)) .nil) (
  .nil))
def f_law_all_undone_1 : Sm := .for (.rng (.cons (.op .sub (.bi .len (.cons (.var 1) (.nil))) (.int 1)) (.nil))) (.n 4) l_law_all_undone_1
def b_law_all_undone : Sms := (.cons f_law_all_undone_1 (
  .cons (.asg 5 false (.bl false)) (
  .cons (.try (.cons (.ex (.callQ 1 314 (.cons (.obj 0 2) (.nil)) [2, 3])) (
   .nil)) [⟨16, none, 5, (.bl true)⟩]) (
  .cons (.ret (.bop true (.cons (.var 5) (.cons (.cmp .eq (.callQ 0 330 (.cons (.obj 0 2) (.nil)) [2, 3]) (.ix (.var 1) (.int 0))) (.nil))))) (
  .nil)))))
def d_law_all_undone : Df := ⟨[.q, .m, .m, .m], 6, b_law_all_undone⟩
abbrev i_law_all_undone : Nat := 333
structure H_law_all_undone (T : Nat → Option Df) : Prop where
  h : T 333 = some d_law_all_undone
  law_look : H_law_look T
  Live_undo : H_Live_undo T
theorem H_law_all_undone.ms {T : Nat → Option Df} (x : H_law_all_undone T) : msOf T 333 = [.q, .m, .m, .m] := ms_at x.h
theorem H_law_all_undone.go {T : Nat → Option Df} {n : Nat} {as : List AV} (x : H_law_all_undone T) : run T (msOf T) (n + 1) 333 as = runDf (run T (msOf T) n) (msOf T) d_law_all_undone as := run_at x.h

-- law_right_47: well live standing looks turn call again k live.numbers live.news again.numbers again.news
def l_law_right_47_1 : Sms := (.cons (.ite (.bop true (.cons (.cmp .eq (.call 10 (.cons (.var 0) (.cons (.int 6) (.nil)))) (.int 0)) (.cons (.cmp .ne (.var 2) (.lst .nil)) (.nil)))) (.cons (.ex (.callQ 1 314 (.cons (.obj 1 8) (.nil)) [8, 9])) (
   .cons (.ex (.mut .pop (.var 2) .nil)) (
   .cons (.ex (.mut .pop (.var 3) .nil)) (
   .nil)))) (.cons (.asg 5 false (.callQ 0 331 (.cons (.var 0) (.cons (.obj 1 8) (.nil))) [8, 9])) (
   .cons (.ite (.callQ 0 332 (.cons (.obj 1 8) (.cons (.ix (.var 5) (.int 0)) (.cons (.ix (.var 5) (.int 1)) (.nil)))) [8, 9]) (.cons (.ex (.mut .append (.var 2) (.cons (.var 5) (.nil)))) (
    .cons (.ex (.mut .append (.var 3) (.cons (.callQ 0 330 (.cons (.obj 1 8) (.nil)) [8, 9]) (.nil)))) (
    .nil))) .nil) (
   .nil)))) (
  .cons (.ite (.bop false (.cons (.cmp .ne (.callQ 0 330 (.cons (.obj 1 8) (.nil)) [8, 9]) (.ix (.var 3) (.neg (.int 1)))) (.cons (.cmp .ne (.callQ 3 306 (.cons (.obj 1 8) (.nil)) [8, 9]) (.bi .len (.cons (.var 2) (.nil)))) (.nil)))) (.cons (.ret (.bl false)) (
   .nil)) .nil) (
  .nil)))
def f_law_right_47_1 : Sm := .for (.rng (.cons (.call 10 (.cons (.var 0) (.cons (.ix (.lst (.cons (.int 41) (.cons (.int 121) (.nil)))) (.bi .int (.cons (.cmp .eq (.call 10 (.cons (.var 0) (.cons (.int 6) (.nil)))) (.int 0)) (.nil)))) (.nil)))) (.nil))) (.n 4) l_law_right_47_1
def l_law_right_47_2 : Sms := (.cons (.ite (.bop false (.cons (.nt (.callQ 0 332 (.cons (.obj 6 10) (.cons (.ix (.ix (.var 2) (.var 7)) (.int 0)) (.cons (.ix (.ix (.var 2) (.var 7)) (.int 1)) (.nil)))) [10, 11])) (.cons (.cmp .ne (.callQ 0 330 (.cons (.obj 6 10) (.nil)) [10, 11]) (.ix (.var 3) (.op .add (.var 7) (.int 1)))) (.nil)))) (.cons (.ret (.bl false)) (
   .nil)) .nil) (
  .nil))
def f_law_right_47_2 : Sm := .for (.rng (.cons (.bi .len (.cons (.var 2) (.nil))) (.nil))) (.n 7) l_law_right_47_2
def l_law_right_47_3 : Sms := (.cons (.ite (.nt (.callQ 0 332 (.cons (.obj 1 8) (.cons (.ix (.var 5) (.int 0)) (.cons (.ix (.var 5) (.int 1)) (.nil)))) [8, 9])) (.cons (.ret (.bl false)) (
   .nil)) .nil) (
  .nil))
def f_law_right_47_3 : Sm := .for (.it false true (.var 2)) (.n 5) l_law_right_47_3
def b_law_right_47 : Sms := (.cons (.newE 1 "Live" [8, 9] 2 true (.lst .nil)) (
  .cons (.asg 3 true (.lst (.cons (.callQ 0 330 (.cons (.obj 1 8) (.nil)) [8, 9]) (.nil)))) (
  .cons f_law_right_47_1 (
  .cons (.newQ 6 "Live" [10, 11]) (
  .cons f_law_right_47_2 (
  .cons (.ite (.bop false (.cons (.nt (.callQ 0 333 (.cons (.obj 1 8) (.cons (.var 3) (.nil))) [8, 9])) (.cons (.cmp .ne (.callQ 0 330 (.cons (.obj 6 10) (.nil)) [10, 11]) (.ix (.var 3) (.neg (.int 1)))) (.nil)))) (.cons (.ret (.bl false)) (
   .nil)) .nil) (
  .cons f_law_right_47_3 (
  .cons (.ret (.bop true (.cons (.cmp .eq (.callQ 0 330 (.cons (.obj 1 8) (.nil)) [8, 9]) (.ix (.var 3) (.neg (.int 1)))) (.cons (.callQ 0 333 (.cons (.obj 6 10) (.cons (.var 3) (.nil))) [10, 11]) (.nil))))) (
  .nil)))))))))
def d_law_right_47 : Df := ⟨[.m], 12, b_law_right_47⟩
abbrev i_law_right_47 : Nat := 334
structure H_law_right_47 (T : Nat → Option Df) : Prop where
  h : T 334 = some d_law_right_47
  law_look : H_law_look T
  law_draw : H_law_draw T
  Live_undo : H_Live_undo T
  law_drawn_call : H_law_drawn_call T
  law_done : H_law_done T
  Live___len__ : H_Live___len__ T
  law_all_undone : H_law_all_undone T
theorem H_law_right_47.ms {T : Nat → Option Df} (x : H_law_right_47 T) : msOf T 334 = [.m] := ms_at x.h
theorem H_law_right_47.go {T : Nat → Option Df} {n : Nat} {as : List AV} (x : H_law_right_47 T) : run T (msOf T) (n + 1) 334 as = runDf (run T (msOf T) n) (msOf T) d_law_right_47 as := run_at x.h

-- law_deep_right: well deep more looks k deep.numbers deep.news
def l_law_deep_right_1 : Sms := (.cons (.ex (.callQ 1 313 (.cons (.obj 1 5) (.cons (.op .mod (.bi .int (.cons (.op .add (.op .mul (.var 4) (.var 4)) (.var 2)) (.nil))) (.int 3)) (.nil))) [5, 6])) (
  .cons (.ex (.mut .append (.var 3) (.cons (.callQ 0 330 (.cons (.obj 1 5) (.nil)) [5, 6]) (.nil)))) (
  .nil)))
def f_law_deep_right_1 : Sm := .for (.rng (.cons (.int 190) (.nil))) (.n 4) l_law_deep_right_1
def b_law_deep_right : Sms := (.cons (.newE 1 "Live" [5, 6] 2 false (.call 10 (.cons (.var 0) (.cons (.int 7) (.nil))))) (
  .cons (.asg 3 true (.lst (.cons (.callQ 0 330 (.cons (.obj 1 5) (.nil)) [5, 6]) (.nil)))) (
  .cons f_law_deep_right_1 (
  .cons (.ret (.callQ 0 333 (.cons (.obj 1 5) (.cons (.var 3) (.nil))) [5, 6])) (
  .nil)))))
def d_law_deep_right : Df := ⟨[.m], 7, b_law_deep_right⟩
abbrev i_law_deep_right : Nat := 335
structure H_law_deep_right (T : Nat → Option Df) : Prop where
  h : T 335 = some d_law_deep_right
  law_draw : H_law_draw T
  law_look : H_law_look T
  Live_lay : H_Live_lay T
  law_all_undone : H_law_all_undone T
theorem H_law_deep_right.ms {T : Nat → Option Df} (x : H_law_deep_right T) : msOf T 335 = [.m] := ms_at x.h
theorem H_law_deep_right.go {T : Nat → Option Df} {n : Nat} {as : List AV} (x : H_law_deep_right T) : run T (msOf T) (n + 1) 335 as = runDf (run T (msOf T) n) (msOf T) d_law_deep_right as := run_at x.h

-- law_50: script k well
def l_law_50_1 : Sms := (.cons (.ite (.nt (.call 334 (.cons (.call 16 (.cons (.var 0) (.cons (.var 1) (.nil)))) (.nil)))) (.cons (.ret (.bl false)) (
   .nil)) .nil) (
  .nil))
def f_law_50_1 : Sm := .for (.rng (.cons (.bi .max (.cons (.int 1) (.cons (.bi .min (.cons (.int 3) (.cons (.bi .len (.cons (.var 0) (.nil))) (.nil)))) (.nil)))) (.nil))) (.n 1) l_law_50_1
def b_law_50 : Sms := (.cons f_law_50_1 (
  .cons (.asg 2 true (.call 16 (.cons (.var 0) (.cons (.int 0) (.nil))))) (
  .cons (.ret (.bop false (.cons (.cmp .eq (.call 10 (.cons (.var 2) (.cons (.int 2) (.nil)))) (.int 0)) (.cons (.call 335 (.cons (.var 2) (.nil))) (.nil))))) (
  .nil))))
def d_law_50 : Df := ⟨[.f], 3, b_law_50⟩
abbrev i_law_50 : Nat := 336
structure H_law_50 (T : Nat → Option Df) : Prop where
  h : T 336 = some d_law_50
  law_right_47 : H_law_right_47 T
  law_well : H_law_well T
  law_draw : H_law_draw T
  law_deep_right : H_law_deep_right T
theorem H_law_50.ms {T : Nat → Option Df} (x : H_law_50 T) : msOf T 336 = [.f] := ms_at x.h
theorem H_law_50.go {T : Nat → Option Df} {n : Nat} {as : List AV} (x : H_law_50 T) : run T (msOf T) (n + 1) 336 as = runDf (run T (msOf T) n) (msOf T) d_law_50 as := run_at x.h

end Vc
end
section
set_option Elab.async false
set_option linter.all false
set_option maxRecDepth 100000
set_option exponentiation.threshold 400
namespace Vc
open PySem PySem.Spec PyProof.Rows L2
/-- a well: what is left of a cell, a seed, a counter up to B -/
def Wl (B : Nat) (ds : List D) : Prop := ∃ c s t : Int, ds = [.int c, .int s, .int t] ∧ 0 ≤ c ∧ 0 ≤ s ∧ s < 2 ^ 140 ∧ 0 ≤ t ∧ t ≤ B
theorem Wl.mono {B C : Nat} {ds : List D} (h : Wl B ds) (hB : B ≤ C) : Wl C ds := by
  obtain ⟨c, s, t, h1, h2, h3, h4, h5, h6⟩ := h
  exact ⟨c, s, t, h1, h2, h3, h4, h5, by omega⟩
theorem bd_mod {m : Nat} {a b : Int} (h0 : 0 < b) (hb : Bd m b) : Bd m (a % b) := by
  have h1 := Int.emod_nonneg a (Int.ne_of_gt h0)
  have h2 := Int.emod_lt_of_pos a h0
  exact hb.le h1 (Int.le_of_lt h2)
section
variable {T : Nat → Option Df} {n : Nat}
theorem draw_hi (h : T i_law_draw = some d_law_draw) {c s t k : Int} (hc : 0 < c) (hk : 0 < k) (hk2 : Bd 300 k) :
    run T (msOf T) (n + 1) i_law_draw [.m [.int c, .int s, .int t], .v (.int k)] = .rt (.v (.int (c % k))) [.o [.int (c / k), .int s, .int t], .no] := by
  have h2 := divOk_of hk2 hk (by decide)
  rw [run_at h]
  simp [runDf, exS.eq_1, exS.eq_2, exS.eq_3, exS.eq_4, exS.eq_5, exS.eq_6, exS.eq_7, exS.eq_8, exS.eq_9, exS.eq_12, exS.eq_13, exS.eq_14, exS.eq_15, exS.eq_16, exS.eq_17, exS.eq_18, exS.eq_19, exS.eq_20, exS.eq_21, exS.eq_22, evE.eq_1, evE.eq_2, evE.eq_3, evE.eq_4, evE.eq_5, evE.eq_6, evE.eq_7, evE.eq_8, evE.eq_9, evE.eq_10, evE.eq_11, evE.eq_12, evE.eq_13, evE.eq_14, evE.eq_15, evE.eq_16, evE.eq_17, evE.eq_18, evE.eq_19, evE.eq_20, evE.eq_21, evE.eq_22, evE.eq_23, evE.eq_24, evE.eq_30, evE.eq_31, evE.eq_32, evE.eq_33, evE.eq_35, evE.eq_36, evE.eq_37, evE.eq_38, evE.eq_39, evE.eq_41, evE.eq_42, evE.eq_43, evE.eq_44, evE.eq_45, evB, evJ, evTs, evI, outR, rngOf, itOf, mtTy, solid, puts, rvtOf, chsOf, slpD, isbD, newOk, setOs, d_law_draw, b_law_draw, ixD_l, ixOf, hc, hk, h2]
theorem draw_lo (h : T i_law_draw = some d_law_draw) {c s t k : Int} (hc : c ≤ 0) (hs : 0 ≤ s) (hs2 : s < 2 ^ 140) (ht : 0 ≤ t) (ht2 : t < 2 ^ 60) (hk : 0 < k) :
    ∃ d, run T (msOf T) (n + 1) i_law_draw [.m [.int c, .int s, .int t], .v (.int k)] = .rt (.v (.int (d % k))) [.o [.int c, .int s, .int (t + 1)], .no] := by
  have hc' : ¬ 0 < c := by omega
  have b1 : Bd 61 (t + 1) := .of' (by omega) (by omega)
  have m1 : mulOk 15485863 (t + 1) = true := mulOk_of (m := 24) (by unfold Bd; decide) b1 (by decide)
  have m2 : mulOk 32452843 (t + 1) = true := mulOk_of (m := 25) (by unfold Bd; decide) b1 (by decide)
  have p1 : powOk (s + 15485863 * (t + 1)) 5 = true := powOk_of (m := 141) (.of' (by omega) (by omega)) (by decide) (by decide)
  have q1 : powOk 10 43 = true := powOk_of (m := 4) (.of' (by decide) (by decide)) (by decide) (by decide)
  have q2 : powOk 10 41 = true := powOk_of (m := 4) (.of' (by decide) (by decide)) (by decide) (by decide)
  have q3 : powOk 10 9 = true := powOk_of (m := 4) (.of' (by decide) (by decide)) (by decide) (by decide)
  have d3 : divOk 1000000000 = true := divOk_of (m := 40) (.of' (by decide) (by decide)) (by decide) (by decide)
  have b2 := bd_mod (m := 150) (a := (s + 15485863 * (t + 1)) ^ 5) (b := 10 ^ 43 + 63) (by decide) (by unfold Bd; decide)
  have p2 : powOk ((s + 15485863 * (t + 1)) ^ 5 % (10 ^ 43 + 63) + 32452843 * (t + 1)) 3 = true := powOk_of (m := 151) (b2.add (.of' (by omega) (by omega))) (by decide) (by decide)
  rw [run_at h]
  simp at p2
  exact ⟨((((s + 15485863 * (t + 1)) ^ 5 % (10 ^ 43 + 63) + 32452843 * (t + 1)) ^ 3 % (10 ^ 41 + 61)) / 10 ^ 9), by simp [runDf, exS.eq_1, exS.eq_2, exS.eq_3, exS.eq_4, exS.eq_5, exS.eq_6, exS.eq_7, exS.eq_8, exS.eq_9, exS.eq_12, exS.eq_13, exS.eq_14, exS.eq_15, exS.eq_16, exS.eq_17, exS.eq_18, exS.eq_19, exS.eq_20, exS.eq_21, exS.eq_22, evE.eq_1, evE.eq_2, evE.eq_3, evE.eq_4, evE.eq_5, evE.eq_6, evE.eq_7, evE.eq_8, evE.eq_9, evE.eq_10, evE.eq_11, evE.eq_12, evE.eq_13, evE.eq_14, evE.eq_15, evE.eq_16, evE.eq_17, evE.eq_18, evE.eq_19, evE.eq_20, evE.eq_21, evE.eq_22, evE.eq_23, evE.eq_24, evE.eq_30, evE.eq_31, evE.eq_32, evE.eq_33, evE.eq_35, evE.eq_36, evE.eq_37, evE.eq_38, evE.eq_39, evE.eq_41, evE.eq_42, evE.eq_43, evE.eq_44, evE.eq_45, evB, evJ, evTs, evI, outR, rngOf, itOf, mtTy, solid, puts, rvtOf, chsOf, slpD, isbD, newOk, setOs, d_law_draw, b_law_draw, ixD_l, ixOf, hc', hk, m1, m2, p1, p2, q1, q2, q3, d3]⟩
/-- what is asked of a draw -/
def Draws (Φ : Ph) (f : Nat) : Prop := ∀ (B : Nat) (ds : List D) (k : Int), Wl B ds → B < 2 ^ 60 → 0 < k → Bd 300 k → ∃ d ds', Φ f [.m ds, .v (.int k)] = .rt (.v (.int d)) [.o ds', .no] ∧ 0 ≤ d ∧ d < k ∧ Wl (B + 1) ds'
theorem draws (h : T i_law_draw = some d_law_draw) : Draws (run T (msOf T) (n + 1)) i_law_draw := by
  intro B ds k hw hB hk hk2
  obtain ⟨c, s, t, rfl, h1, h2, h3, h4, h5⟩ := hw
  by_cases hc : 0 < c
  · exact ⟨c % k, _, draw_hi h hc hk hk2, Int.emod_nonneg _ (by omega), Int.emod_lt_of_pos _ hk, c / k, s, t, rfl, Int.ediv_nonneg h1 (by omega), h2, h3, h4, by omega⟩
  · obtain ⟨d, hd⟩ := draw_lo (n := n) h (c := c) (by omega) h2 h3 h4 (by omega) hk
    exact ⟨d % k, _, hd, Int.emod_nonneg _ (by omega), Int.emod_lt_of_pos _ hk, c, s, t + 1, rfl, h1, h2, h3, by omega, by omega⟩
end
theorem well_run {Φ : Ph} {ms : Nat → List Md} {ns : List Int} {k : Int} (h0 : 0 ≤ k) (hk : k < 100) : ∃ ds, runDf Φ ms d_law_well [.f (il ns), .v (.int k)] = .rt (.o ds) [.no, .no] ∧ Wl 0 ds := by
  have q1 : powOk 10 18 = true := powOk_of (m := 4) (.of' (by decide) (by decide)) (by decide) (by decide)
  have q2 : powOk 10 36 = true := powOk_of (m := 4) (.of' (by decide) (by decide)) (by decide) (by decide)
  have m1 : mulOk 41 k = true := mulOk_of (m := 20) (n := 20) (.of' (by decide) (by decide)) (.of' (by omega) (by omega)) (by decide)
  have m2 : mulOk 7 k = true := mulOk_of (m := 20) (n := 20) (.of' (by decide) (by decide)) (.of' (by omega) (by omega)) (by decide)
  have fin : ∀ cell : Int, Wl 0 [.int (max 0 (cell - 1000000000000000000)), .int (cell % 1000000000000000000000000000000000067 + 7 * k + 1), .int 0] := fun cell => by
    have h1 := Int.emod_nonneg cell (show (1000000000000000000000000000000000067 : Int) ≠ 0 by decide)
    have h2 := Int.emod_lt_of_pos cell (show (0 : Int) < 1000000000000000000000000000000000067 by decide)
    exact ⟨_, _, _, rfl, by omega, by omega, by omega, by omega, by omega⟩
  by_cases hl : k < ns.length
  · obtain ⟨x, hx⟩ : ∃ x, ns[k.toNat]? = some x := ⟨_, List.getElem?_eq_getElem (by omega)⟩
    have P := ix_il h0 hx
    exact ⟨_, by simp [d_law_well, b_law_well, runDf, exS.eq_1, exS.eq_2, exS.eq_3, exS.eq_4, exS.eq_5, exS.eq_6, exS.eq_7, exS.eq_8, exS.eq_9, exS.eq_12, exS.eq_13, exS.eq_14, exS.eq_15, exS.eq_16, exS.eq_17, exS.eq_18, exS.eq_19, exS.eq_20, exS.eq_21, exS.eq_22, evE.eq_1, evE.eq_2, evE.eq_3, evE.eq_4, evE.eq_5, evE.eq_6, evE.eq_7, evE.eq_8, evE.eq_9, evE.eq_10, evE.eq_11, evE.eq_12, evE.eq_13, evE.eq_14, evE.eq_15, evE.eq_16, evE.eq_17, evE.eq_18, evE.eq_19, evE.eq_20, evE.eq_21, evE.eq_22, evE.eq_23, evE.eq_24, evE.eq_30, evE.eq_31, evE.eq_32, evE.eq_33, evE.eq_35, evE.eq_36, evE.eq_37, evE.eq_38, evE.eq_39, evE.eq_41, evE.eq_42, evE.eq_43, evE.eq_44, evE.eq_45, evB, evJ, evTs, evI, outR, rngOf, itOf, mtTy, solid, puts, rvtOf, chsOf, slpD, isbD, newOk, setOs, q1, q2, m2, hl, P], fin (x.natAbs : Int)⟩
  · exact ⟨_, by simp [d_law_well, b_law_well, runDf, exS.eq_1, exS.eq_2, exS.eq_3, exS.eq_4, exS.eq_5, exS.eq_6, exS.eq_7, exS.eq_8, exS.eq_9, exS.eq_12, exS.eq_13, exS.eq_14, exS.eq_15, exS.eq_16, exS.eq_17, exS.eq_18, exS.eq_19, exS.eq_20, exS.eq_21, exS.eq_22, evE.eq_1, evE.eq_2, evE.eq_3, evE.eq_4, evE.eq_5, evE.eq_6, evE.eq_7, evE.eq_8, evE.eq_9, evE.eq_10, evE.eq_11, evE.eq_12, evE.eq_13, evE.eq_14, evE.eq_15, evE.eq_16, evE.eq_17, evE.eq_18, evE.eq_19, evE.eq_20, evE.eq_21, evE.eq_22, evE.eq_23, evE.eq_24, evE.eq_30, evE.eq_31, evE.eq_32, evE.eq_33, evE.eq_35, evE.eq_36, evE.eq_37, evE.eq_38, evE.eq_39, evE.eq_41, evE.eq_42, evE.eq_43, evE.eq_44, evE.eq_45, evB, evJ, evTs, evI, outR, rngOf, itOf, mtTy, solid, puts, rvtOf, chsOf, slpD, isbD, newOk, setOs, q1, q2, m1, m2, hl], fin (41 * k)⟩
end Vc
end
section
set_option Elab.async false
set_option linter.all false
set_option maxRecDepth 100000
set_option exponentiation.threshold 400
namespace Vc
open PySem PySem.Spec PyProof.Rows L2
/-- the sum of F 0 .. F (n - 1) -/
def sg : Nat → (Nat → Int) → Int
  | 0, _ => 0
  | n + 1, F => sg n F + F n
theorem sg_congr {F G : Nat → Int} : ∀ {n : Nat}, (∀ d, d < n → F d = G d) → sg n F = sg n G
  | 0, _ => rfl
  | n + 1, h => by
    simp only [sg]
    rw [sg_congr fun d hd => h d (by omega), h n (by omega)]
theorem sg_zero {F : Nat → Int} {n : Nat} (h : ∀ d, d < n → F d = 0) : sg n F = 0 := by
  rw [sg_congr (G := fun _ => 0) h]
  clear h
  induction n with
  | zero => rfl
  | succ n ih => simp [sg, ih]
theorem sg_add {F G : Nat → Int} : ∀ {n : Nat}, sg n (fun d => F d + G d) = sg n F + sg n G
  | 0 => rfl
  | n + 1 => by simp only [sg]; rw [sg_add]; omega
theorem sg_mul {F : Nat → Int} {c : Int} : ∀ {n : Nat}, sg n (fun d => c * F d) = c * sg n F
  | 0 => by simp [sg]
  | n + 1 => by simp only [sg]; rw [sg_mul, Int.mul_add]
theorem sg_nn {F : Nat → Int} : ∀ {n : Nat}, (∀ d, d < n → 0 ≤ F d) → 0 ≤ sg n F
  | 0, _ => Int.le_refl 0
  | n + 1, h => by
    have h1 := sg_nn (n := n) fun d hd => h d (by omega)
    have h2 := h n (by omega)
    simp only [sg]
    omega
theorem sg_more {F : Nat → Int} {n : Nat} : ∀ {m : Nat}, n ≤ m → (∀ d, n ≤ d → d < m → F d = 0) → sg m F = sg n F
  | 0, h, _ => by rw [Nat.le_zero.mp h]
  | m + 1, h, z => by
    by_cases q : n = m + 1
    · rw [q]
    · simp only [sg]
      rw [sg_more (m := m) (by omega) fun d h1 h2 => z d h1 (by omega), z m (by omega) (by omega), Int.add_zero]
theorem sg_one {F : Nat → Int} {k : Nat} : ∀ {n : Nat}, k < n → (∀ d, d < n → d ≠ k → F d = 0) → sg n F = F k
  | 0, h, _ => by omega
  | n + 1, h, z => by
    simp only [sg]
    by_cases q : k = n
    · subst q
      rw [sg_zero fun d hd => z d (by omega) (by omega)]
      omega
    · rw [sg_one (n := n) (by omega) fun d h1 h2 => z d (by omega) h2, z n (by omega) (by omega), Int.add_zero]
theorem sg_sum {F : Nat → Int} {p : Nat → Bool} : ∀ {n : Nat}, (((List.range n).filter p).map F).sum = sg n fun d => if p d = true then F d else 0
  | 0 => rfl
  | n + 1 => by
    rw [List.range_succ, List.filter_append, List.map_append, List.sum_append, sg_sum]
    simp only [sg]
    cases h : p n <;> simp [h]
theorem sg_shift {F : Nat → Int} : ∀ {n : Nat}, sg (n + 1) F = F 0 + sg n fun d => F (d + 1)
  | 0 => by simp [sg]
  | n + 1 => by rw [sg, sg_shift, sg]; omega
/-- the new number of n, numbers f -/
def nw (f : Nat → Int) (n : Nat) : Int := f n - ((List.range n).attach.map fun d => if n % d.1 = 0 then nw f d.1 else 0).sum
termination_by n
decreasing_by exact List.mem_range.mp d.2
theorem nw_eq (f : Nat → Int) (n : Nat) : nw f n = f n - sg n fun d => if n % d = 0 then nw f d else 0 := by
  rw [nw, List.attach_map_val (f := fun d => if n % d = 0 then nw f d else 0)]
  have := sg_sum (F := fun d => if n % d = 0 then nw f d else 0) (p := fun _ => true) (n := n)
  rw [List.filter_eq_self.mpr fun _ _ => rfl] at this
  rw [this]
  simp
/-- the sum over the divisors of n -/
def dv (n : Nat) (F : Nat → Int) : Int := sg (n + 1) fun d => if n % d = 0 then F d else 0
theorem dv_nw {f : Nat → Int} {n : Nat} : dv n (nw f) = f n := by
  simp only [dv, sg]
  rw [if_pos (Nat.mod_self n), nw_eq f n]
  omega
theorem nw_uniq {f g : Nat → Int} {N : Nat} (h : ∀ n, 1 ≤ n → n ≤ N → dv n g = f n) : ∀ n, 1 ≤ n → n ≤ N → nw f n = g n := by
  intro n
  induction n using Nat.strongRecOn with
  | _ n ih =>
    intro h1 h2
    have e := h n h1 h2
    simp only [dv, sg] at e
    rw [if_pos (Nat.mod_self n)] at e
    have key : (sg n fun d => if n % d = 0 then nw f d else 0) = sg n fun d => if n % d = 0 then g d else 0 := sg_congr fun d hd => by
      by_cases hz : d = 0
      · subst hz
        simp only [Nat.mod_zero]
        rw [if_neg (by omega), if_neg (by omega)]
      · simp only [ih d hd (by omega) (by omega)]
    rw [nw_eq, key]
    omega
theorem nw_congr {f g : Nat → Int} {N : Nat} (h : ∀ n, 1 ≤ n → n ≤ N → f n = g n) : ∀ n, 1 ≤ n → n ≤ N → nw f n = nw g n :=
  nw_uniq fun n h1 h2 => by rw [dv_nw, h n h1 h2]
theorem dv_congr {F G : Nat → Int} {n : Nat} (h0 : 1 ≤ n) (h : ∀ d, 1 ≤ d → d ≤ n → n % d = 0 → F d = G d) : dv n F = dv n G := by
  unfold dv
  refine sg_congr fun d hd => ?_
  by_cases q : n % d = 0
  · rw [if_pos q, if_pos q]
    have : d ≠ 0 := fun z => by subst z; rw [Nat.mod_zero] at q; omega
    exact h d (by omega) (by omega) q
  · rw [if_neg q, if_neg q]
theorem dv_add {F G : Nat → Int} {n : Nat} : dv n (fun d => F d + G d) = dv n F + dv n G := by
  unfold dv
  rw [← sg_add]
  exact sg_congr fun d _ => by
    dsimp only
    split <;> omega
theorem dv_mul {F : Nat → Int} {c : Int} {n : Nat} : dv n (fun d => c * F d) = c * dv n F := by
  unfold dv
  rw [← sg_mul]
  exact sg_congr fun d _ => by
    dsimp only
    split <;> simp
theorem nw_add {f g : Nat → Int} {n : Nat} (h : 1 ≤ n) : nw (fun k => f k + g k) n = nw f n + nw g n :=
  nw_uniq (N := n) (g := fun k => nw f k + nw g k) (fun k _ _ => by rw [dv_add, dv_nw, dv_nw]) n h (Nat.le_refl n)
theorem nw_mul {f : Nat → Int} {c : Int} {n : Nat} (h : 1 ≤ n) : nw (fun k => c * f k) n = c * nw f n :=
  nw_uniq (N := n) (g := fun k => c * nw f k) (fun k _ _ => by rw [dv_mul, dv_nw]) n h (Nat.le_refl n)
/-- the row of rings c -/
def rw_ (c : Nat → Int) (n : Nat) : Int := dv n fun d => d * c d
theorem nw_rw {c : Nat → Int} {n : Nat} (h : 1 ≤ n) : nw (rw_ c) n = n * c n :=
  nw_uniq (N := n) (fun k _ _ => rfl) n h (Nat.le_refl n)
theorem rw_nw {f : Nat → Int} {N : Nat} (h : ∀ n, 1 ≤ n → n ≤ N → nw f n % n = 0) {n : Nat} (h1 : 1 ≤ n) (h2 : n ≤ N) : rw_ (fun d => nw f d / d) n = f n := by
  unfold rw_
  rw [dv_congr (G := nw f) h1 fun d d1 d2 _ => ?_, dv_nw]
  have := Int.mul_ediv_add_emod (nw f d) d
  rw [h d d1 (by omega)] at this
  dsimp only
  omega
def tl (N : Nat) (F : Nat → Int) : List Int := (List.range N).map fun k => F (k + 1)
@[simp] theorem tl_len {N : Nat} {F : Nat → Int} : (tl N F).length = N := by simp [tl]
theorem tl_get {N k : Nat} {F : Nat → Int} (h : k < N) : (tl N F)[k]? = some (F (k + 1)) := by simp [tl, h]
theorem tl_congr {N : Nat} {F G : Nat → Int} (h : ∀ n, 1 ≤ n → n ≤ N → F n = G n) : tl N F = tl N G := by
  unfold tl
  exact List.map_congr_left fun k hk => h (k + 1) (by omega) (by have := List.mem_range.mp hk; omega)
theorem tl_succ {N : Nat} {F : Nat → Int} : tl (N + 1) F = tl N F ++ [F (N + 1)] := by simp [tl, List.range_succ]
end Vc
end
section
set_option Elab.async false
set_option linter.all false
set_option maxRecDepth 100000
set_option exponentiation.threshold 400
namespace Vc
open PySem PySem.Spec PyProof.Rows L2
section
variable {T : Nat → Option Df} {n : Nat}
theorem dip_hi (h : H_law_dip T) {c s t k : Int} (hc : 0 < c) (hk : 0 < k) (hk2 : Bd 300 k) :
    run T (msOf T) (n + 1) i_law_dip [.m [.int c, .int s, .int t], .v (.int k)] = .rt (.v (.int (c % k))) [.o [.int (c / k), .int s, .int t], .no] := by
  have h2 := divOk_of hk2 hk (by decide)
  rw [h.go]
  simp [runDf, exS.eq_1, exS.eq_2, exS.eq_3, exS.eq_4, exS.eq_5, exS.eq_6, exS.eq_7, exS.eq_8, exS.eq_9, exS.eq_12, exS.eq_13, exS.eq_14, exS.eq_15, exS.eq_16, exS.eq_17, exS.eq_18, exS.eq_19, exS.eq_20, exS.eq_21, exS.eq_22, evE.eq_1, evE.eq_2, evE.eq_3, evE.eq_4, evE.eq_5, evE.eq_6, evE.eq_7, evE.eq_8, evE.eq_9, evE.eq_10, evE.eq_11, evE.eq_12, evE.eq_13, evE.eq_14, evE.eq_15, evE.eq_16, evE.eq_17, evE.eq_18, evE.eq_19, evE.eq_20, evE.eq_21, evE.eq_22, evE.eq_23, evE.eq_24, evE.eq_30, evE.eq_31, evE.eq_32, evE.eq_33, evE.eq_35, evE.eq_36, evE.eq_37, evE.eq_38, evE.eq_39, evE.eq_41, evE.eq_42, evE.eq_43, evE.eq_44, evE.eq_45, evB, evJ, evTs, evI, outR, rngOf, itOf, mtTy, solid, puts, rvtOf, chsOf, slpD, isbD, newOk, setOs, d_law_dip, b_law_dip, ixD_l, ixOf, hc, hk, h2]
theorem dip_lo (h : H_law_dip T) {c s t k : Int} (hc : c ≤ 0) (hs : 0 ≤ s) (hs2 : s < 2 ^ 140) (ht : 0 ≤ t) (ht2 : t < 2 ^ 60) (hk : 0 < k) :
    ∃ d, run T (msOf T) (n + 1) i_law_dip [.m [.int c, .int s, .int t], .v (.int k)] = .rt (.v (.int (d % k))) [.o [.int c, .int s, .int (t + 1)], .no] := by
  have hc' : ¬ 0 < c := by omega
  have b1 : Bd 61 (t + 1) := .of' (by omega) (by omega)
  have m1 : mulOk 86028121 (t + 1) = true := mulOk_of (m := 30) (by unfold Bd; decide) b1 (by decide)
  have m2 : mulOk 179424673 (t + 1) = true := mulOk_of (m := 30) (by unfold Bd; decide) b1 (by decide)
  have p1 : powOk (s + 86028121 * (t + 1)) 3 = true := powOk_of (m := 141) (.of' (by omega) (by omega)) (by decide) (by decide)
  have q1 : powOk 10 41 = true := powOk_of (m := 4) (.of' (by decide) (by decide)) (by decide) (by decide)
  have q2 : powOk 10 39 = true := powOk_of (m := 4) (.of' (by decide) (by decide)) (by decide) (by decide)
  have q3 : powOk 10 7 = true := powOk_of (m := 4) (.of' (by decide) (by decide)) (by decide) (by decide)
  have d3 : divOk 10000000 = true := divOk_of (m := 40) (.of' (by decide) (by decide)) (by decide) (by decide)
  have b2 := bd_mod (m := 150) (a := (s + 86028121 * (t + 1)) ^ 3) (b := 10 ^ 41 + 9) (by decide) (by unfold Bd; decide)
  have p2 : powOk ((s + 86028121 * (t + 1)) ^ 3 % (10 ^ 41 + 9) + 179424673 * (t + 1)) 3 = true := powOk_of (m := 151) (b2.add (.of' (by omega) (by omega))) (by decide) (by decide)
  rw [h.go]
  simp at p2
  exact ⟨((((s + 86028121 * (t + 1)) ^ 3 % (10 ^ 41 + 9) + 179424673 * (t + 1)) ^ 3 % (10 ^ 39 + 57)) / 10 ^ 7), by simp [runDf, exS.eq_1, exS.eq_2, exS.eq_3, exS.eq_4, exS.eq_5, exS.eq_6, exS.eq_7, exS.eq_8, exS.eq_9, exS.eq_12, exS.eq_13, exS.eq_14, exS.eq_15, exS.eq_16, exS.eq_17, exS.eq_18, exS.eq_19, exS.eq_20, exS.eq_21, exS.eq_22, evE.eq_1, evE.eq_2, evE.eq_3, evE.eq_4, evE.eq_5, evE.eq_6, evE.eq_7, evE.eq_8, evE.eq_9, evE.eq_10, evE.eq_11, evE.eq_12, evE.eq_13, evE.eq_14, evE.eq_15, evE.eq_16, evE.eq_17, evE.eq_18, evE.eq_19, evE.eq_20, evE.eq_21, evE.eq_22, evE.eq_23, evE.eq_24, evE.eq_30, evE.eq_31, evE.eq_32, evE.eq_33, evE.eq_35, evE.eq_36, evE.eq_37, evE.eq_38, evE.eq_39, evE.eq_41, evE.eq_42, evE.eq_43, evE.eq_44, evE.eq_45, evB, evJ, evTs, evI, outR, rngOf, itOf, mtTy, solid, puts, rvtOf, chsOf, slpD, isbD, newOk, setOs, d_law_dip, b_law_dip, ixD_l, ixOf, hc', hk, m1, m2, p1, p2, q1, q2, q3, d3]⟩
theorem dips (h : H_law_dip T) : Draws (run T (msOf T) (n + 1)) i_law_dip := by
  intro B ds k hw hB hk hk2
  obtain ⟨c, s, t, rfl, h1, h2, h3, h4, h5⟩ := hw
  by_cases hc : 0 < c
  · exact ⟨c % k, _, dip_hi h hc hk hk2, Int.emod_nonneg _ (by omega), Int.emod_lt_of_pos _ hk, c / k, s, t, rfl, Int.ediv_nonneg h1 (by omega), h2, h3, h4, by omega⟩
  · obtain ⟨d, hd⟩ := dip_lo (n := n) h (c := c) (by omega) h2 h3 h4 (by omega) hk
    exact ⟨d % k, _, hd, Int.emod_nonneg _ (by omega), Int.emod_lt_of_pos _ hk, c, s, t + 1, rfl, h1, h2, h3, by omega, by omega⟩
end
def nthS : Sms → Nat → Sm
  | .nil, _ => .pass
  | .cons s _, 0 => s
  | .cons _ r, k + 1 => nthS r k
def dropS : Sms → Nat → Sms
  | b, 0 => b
  | .nil, _ => .nil
  | .cons _ r, k + 1 => dropS r k
theorem exSs_at {Φ : Ph} {ms : Nat → List Md} {b : Sms} {k : Nat} {e e1 : En} (S : exS Φ ms (nthS b k) e = .nx e1) (hb : dropS b k = .cons (nthS b k) (dropS b (k + 1))) : exSs Φ ms (dropS b k) e = exSs Φ ms (dropS b (k + 1)) e1 := by
  rw [hb, zz_exs, S]
  rfl
theorem exSs_rt {Φ : Ph} {ms : Nat → List Md} {b : Sms} {k : Nat} {e e1 : En} {r : RV} (S : exS Φ ms (nthS b k) e = .rt r e1) (hb : dropS b k = .cons (nthS b k) (dropS b (k + 1))) : exSs Φ ms (dropS b k) e = .rt r e1 := by
  rw [hb, zz_exs, S]
  rfl
end Vc
end
section
set_option Elab.async false
set_option linter.all false
set_option maxRecDepth 100000
set_option exponentiation.threshold 400
namespace Vc
open PySem PySem.Spec PyProof.Rows L2
def zl (N : Nat) (F : Nat → Int) : List Int := (List.range N).map F
@[simp] theorem zl_len {N : Nat} {F : Nat → Int} : (zl N F).length = N := by simp [zl]
structure Pm (N : Nat) (π : Nat → Nat) : Prop where
  lt : ∀ i, i < N → π i < N
  inj : ∀ i j, i < N → j < N → π i = π j → i = j
def zp (N : Nat) (π : Nat → Nat) : List Int := zl N fun i => (π i : Int)
@[simp] theorem zp_len {N : Nat} {π : Nat → Nat} : (zp N π).length = N := zl_len
theorem Pm.id {N : Nat} : Pm N id := ⟨fun _ h => h, fun _ _ _ _ h => h⟩
theorem Pm.congr {N : Nat} {π τ : Nat → Nat} (h : Pm N π) (e : ∀ i, i < N → τ i = π i) : Pm N τ :=
  ⟨fun i hi => by rw [e i hi]; exact h.lt i hi, fun i j hi hj z => h.inj i j hi hj (by rwa [e i hi, e j hj] at z)⟩
/-- j stores of a block -/
def blk (P : Nat → Nat) (H : Nat → Int) (a len j i : Nat) : Int := if a ≤ i ∧ i < a + j then (P (a + (i - a + 1) % len) : Int) else H i
end Vc
end
section
set_option Elab.async false
set_option linter.all false
set_option maxRecDepth 100000
set_option exponentiation.threshold 400
namespace Vc
open PySem PySem.Spec PyProof.Rows L2
theorem sg_bd {F : Nat → Int} {M : Int} : ∀ {n : Nat}, (∀ d, d < n → -M ≤ F d ∧ F d ≤ M) → -(n * M) ≤ sg n F ∧ sg n F ≤ n * M
  | 0, _ => by simp [sg]
  | n + 1, h => by
    have h1 := sg_bd (n := n) fun d hd => h d (by omega)
    have h2 := h n (by omega)
    simp only [sg]
    have e : ((n + 1 : Nat) : Int) * M = n * M + M := by rw [Int.natCast_succ, Int.add_mul, Int.one_mul]
    rw [e]
    omega
theorem eqD_nn : eqD (.list []) (.list []) = some true := by rfl
/-- truths by places -/
def bL (N : Nat) (p : Nat → Bool) : List D := ((List.range N).map p).map PyData.bool
@[simp] theorem bL_len {N : Nat} {p : Nat → Bool} : (bL N p).length = N := by simp [bL]
@[simp] theorem op2_addt {a b : List D} : op2 .add (.tuple a) (.tuple b) = if a.length + b.length ≤ 16777216 then some (.v (.tuple (a ++ b))) else none := id rfl
end Vc
end
section
set_option Elab.async false
set_option linter.all false
set_option maxRecDepth 100000
set_option exponentiation.threshold 400
namespace Vc
open PySem PySem.Spec PyProof.Rows L2
section
variable {T : Nat → Option Df} {n : Nat}
end
end Vc
end
section
set_option Elab.async false
set_option linter.all false
set_option maxRecDepth 100000
set_option exponentiation.threshold 8000
namespace Vc
open PySem PySem.Spec PyProof.Rows L2
/-- a table as data -/
def tbM (P : Nat) (A : Nat → Nat → Int) : List D := (List.range P).map fun i => .tuple (il (zl P (A i)))
@[simp] theorem tbM_len {P : Nat} {A : Nat → Nat → Int} : (tbM P A).length = P := by simp [tbM]
def mm (P : Nat) (A B : Nat → Nat → Int) (i j : Nat) : Int := sg P fun k => A i k * B k j
/-- t + 1 steps -/
def pw (P : Nat) (A : Nat → Nat → Int) : Nat → Nat → Nat → Int
  | 0 => A
  | t + 1 => mm P (pw P A t) A
section
variable {T : Nat → Option Df} {n : Nat} {P : Nat}
end
end Vc
end
section
set_option Elab.async false
set_option linter.all false
set_option maxRecDepth 100000
set_option exponentiation.threshold 8000
namespace Vc
open PySem PySem.Spec PyProof.Rows L2
section
variable {T : Nat → Option Df} {n : Nat} {P : Nat}
end
end Vc
end
section
set_option Elab.async false
set_option linter.all false
set_option maxRecDepth 100000
set_option exponentiation.threshold 400
namespace Vc
open PySem PySem.Spec PyProof.Rows L2
section
variable {T : Nat → Option Df} {n : Nat}
end
end Vc
end
section
set_option Elab.async false
set_option linter.all false
set_option maxRecDepth 100000
set_option exponentiation.threshold 400
namespace Vc
open PySem PySem.Spec PyProof.Rows L2
section
variable {T : Nat → Option Df} {n : Nat}
end
end Vc
end
section
set_option Elab.async false
set_option linter.all false
set_option maxRecDepth 100000
set_option exponentiation.threshold 400
namespace Vc
open PySem PySem.Spec PyProof.Rows L2
section
variable {T : Nat → Option Df} {n : Nat}
end
end Vc
end
section
set_option Elab.async false
set_option linter.all false
set_option maxRecDepth 100000
namespace Vc
open PySem PySem.Spec PyProof.Rows L2 TL
def cpl (z : Str) : List Nat := z.cps.toList
end Vc
end
section
set_option Elab.async false
set_option linter.all false
set_option maxRecDepth 100000
namespace Vc
open PySem PySem.Spec PyProof.Rows L2
section
variable {T : Nat → Option Df} {n : Nat}
end
end Vc
end
section
set_option Elab.async false
set_option linter.all false
set_option maxRecDepth 100000
namespace Vc
open PySem PySem.Spec PyProof.Rows L2
mutual
def nbD : D → Bool
  | .none | .int _ | .str _ => true
  | .bool _ | .dict _ => false
  | .list xs | .tuple xs => nbA xs
def nbA : List D → Bool
  | [] => true
  | x :: xs => nbD x && nbA xs
end
mutual
theorem eqv_eq : ∀ (d e : D), nbD d = true → nbD e = true → (d.eqv e = true ↔ d = e)
  | .none, e, _, h => by cases e <;> simp [PyData.eqv, nbD] at h ⊢
  | .int i, e, _, h => by cases e <;> simp [PyData.eqv, nbD] at h ⊢
  | .str x, e, _, h => by cases e <;> simp [PyData.eqv, nbD] at h ⊢
  | .bool _, _, h, _ => by simp [nbD] at h
  | .dict _, _, h, _ => by simp [nbD] at h
  | .list xs, e, h, h' => by
    cases e <;> simp [PyData.eqv, nbD] at h h' ⊢
    exact eqvA_eq xs _ h h'
  | .tuple xs, e, h, h' => by
    cases e <;> simp [PyData.eqv, nbD] at h h' ⊢
    exact eqvA_eq xs _ h h'
theorem eqvA_eq : ∀ (xs ys : List D), nbA xs = true → nbA ys = true → (PyData.eqvAll xs ys = true ↔ xs = ys)
  | [], [], _, _ => by simp [PyData.eqvAll]
  | [], _ :: _, _, _ => by simp [PyData.eqvAll]
  | _ :: _, [], _, _ => by simp [PyData.eqvAll]
  | x :: xs, y :: ys, h, h' => by
    simp only [nbA, Bool.and_eq_true] at h h'
    simp only [PyData.eqvAll, Bool.and_eq_true, List.cons.injEq]
    rw [eqv_eq x y h.1 h'.1, eqvA_eq xs ys h.2 h'.2]
end
/-- flat data: texts of numbers at most B long, at most c parts, at most k deep -/
structure Fl (B c k : Nat) (d : D) : Prop where
  lay : d.canLay0 = true
  dep : d.depth ≤ k
  sh : d.leavesShort B = true
  shb : d.showable = true
  nd : d.hasDict = false
  blk : d.bulk ≤ c
  nb : nbD d = true
theorem Fl.int {m : Nat} {i : Int} (h : Bd m i) (hm : m < 1920) : Fl (m + 2) 0 0 (.int i) := ⟨rfl, Nat.le_refl _, decide_eq_true (int_short h), decide_eq_true (Nat.lt_of_le_of_lt h.lg hm), rfl, Nat.le_refl _, rfl⟩
theorem Fl.str {B : Nat} {x : Str} (h : (cpl x).all (· < 0x110000) = true) : Fl B x.length 0 (.str x) := by
  refine ⟨?_, Nat.le_refl _, ?_, rfl, rfl, Nat.le_refl _, rfl⟩
  · show x.cps.all (· < 0x110000) = true
    rw [← Array.all_toList]; exact h
  · show (cpl x).all (fun c => decide (c < 16 ^ 8)) = true
    rw [List.all_eq_true] at h ⊢
    intro c hc
    have := h c hc
    simp at this ⊢
    omega
theorem Fl.mono {B c k c' k' : Nat} {d : D} (h : Fl B c k d) (hc : c ≤ c') (hk : k ≤ k') : Fl B c' k' d := ⟨h.lay, Nat.le_trans h.dep hk, h.sh, h.shb, h.nd, Nat.le_trans h.blk hc, h.nb⟩
theorem flA {B c k : Nat} : ∀ {ds : List D}, (∀ d ∈ ds, Fl B c k d) → PyData.canLayAll0 ds = true ∧ PyData.depthAll ds ≤ k ∧ PyData.leavesShortAll B ds = true ∧ PyData.showableAll ds = true ∧ PyData.hasDictAll ds = false ∧ PyData.bulkAll ds ≤ ds.length * (c + 1) ∧ nbA ds = true
  | [], _ => ⟨rfl, Nat.zero_le _, rfl, rfl, rfl, Nat.zero_le _, rfl⟩
  | d :: ds, h => by
    have f := h d List.mem_cons_self
    obtain ⟨h1, h2, h3, h4, h5, h6, h7⟩ := flA fun x hx => h x (List.mem_cons_of_mem _ hx)
    refine ⟨?_, ?_, ?_, ?_, ?_, ?_, ?_⟩
    · show (PyData.canLay0 d && PyData.canLayAll0 ds) = true
      rw [f.lay, h1]; rfl
    · show max (PyData.depth d) (PyData.depthAll ds) ≤ k
      exact Nat.max_le.mpr ⟨f.dep, h2⟩
    · show (PyData.leavesShort B d && PyData.leavesShortAll B ds) = true
      rw [f.sh, h3]; rfl
    · show (PyData.showable d && PyData.showableAll ds) = true
      rw [f.shb, h4]; rfl
    · show (PyData.hasDict d || PyData.hasDictAll ds) = false
      rw [f.nd, h5]; rfl
    · show PyData.bulk d + 1 + PyData.bulkAll ds ≤ (ds.length + 1) * (c + 1)
      have := f.blk
      rw [Nat.add_mul, Nat.one_mul]
      omega
    · simp [nbA, f.nb, h7]
theorem Fl.list {B c k : Nat} {ds : List D} (h : ∀ d ∈ ds, Fl B c k d) : Fl B (ds.length * (c + 1)) (k + 1) (.list ds) := by
  obtain ⟨h1, h2, h3, h4, h5, h6, h7⟩ := flA h
  exact ⟨h1, Nat.succ_le_succ h2, h3, h4, h5, h6, by simpa [nbD] using h7⟩
theorem Fl.tuple {B c k : Nat} {ds : List D} (h : ∀ d ∈ ds, Fl B c k d) : Fl B (ds.length * (c + 1)) (k + 1) (.tuple ds) := by
  obtain ⟨h1, h2, h3, h4, h5, h6, h7⟩ := flA h
  exact ⟨h1, Nat.succ_le_succ h2, h3, h4, h5, h6, by simpa [nbD] using h7⟩
theorem Fl.ok {B c k : Nat} {d : D} (h : Fl B c k d) (hk : k ≤ 64) : okD d = true := by
  show (d.canLay0 && decide (d.depth ≤ 64)) = true
  rw [h.lay, decide_eq_true (Nat.le_trans h.dep hk)]; rfl
theorem Fl.show {B c k : Nat} {d : D} (h : Fl B c k d) (hk : k ≤ 64) (hB : 8 ≤ B) (hc : (B + 2) * (c + 1) ≤ 16777216) : showOk d = true := by
  have q := PyData.shown_le_bulk B hB d h.sh
  have e : PySem.sizeLine = 16777216 := by decide +kernel
  have q2 : (B + 2) * d.bulk ≤ (B + 2) * c := Nat.mul_le_mul_left _ h.blk
  rw [Nat.mul_add, Nat.mul_one] at hc
  unfold showOk
  rw [h.shb, h.nd, cd_iff.mpr (by show _ ≤ PySem.sizeLine; rw [e]; omega), cd_iff.mpr (Nat.le_trans h.dep hk)]
  rfl
theorem Fl.eq {B c k B' c' k' : Nat} {d e : D} (h : Fl B c k d) (h' : Fl B' c' k' e) (hk : k ≤ 64) (hk' : k' ≤ 64) (hs : ∀ a b, d = .str a → e = .str b → False) {b : Bool} (hb : b = true ↔ d = e) : eqD d e = some b := by
  have q : eqD d e = if okD d && okD e then some (d.eqv e) else lenN d e := by
    cases d <;> cases e <;> first | rfl | exact (hs _ _ rfl rfl).elim
  rw [q, h.ok hk, h'.ok hk']
  have := eqv_eq d e h.nb h'.nb
  have e2 : d.eqv e = b := by rw [Bool.eq_iff_iff, this, hb]
  rw [← e2]; rfl
end Vc
end
section
set_option Elab.async false
set_option linter.all false
namespace Vc
@[simp] theorem ex1 {x : Xn} {e : En} {f : RV → En → R} : R.bd (.ex x e) f = .ex x e := id rfl
@[simp] theorem ex2 {x : Xn} {e : En} {f : RV → En → RT} : R.bt (.ex x e) f = .ex x e := id rfl
@[simp] theorem ex3 {x : Xn} {e : En} {f : RV → En → O} : R.bo (.ex x e) f = .ex x e := id rfl
@[simp] theorem ex4 {x : Xn} {e : En} {f : RV → En → RI} : R.bi (.ex x e) f = .ex x e := id rfl
@[simp] theorem ex5 {x : Xn} {e : En} {f : List RV → En → R} : RL.bd (.ex x e) f = .ex x e := id rfl
@[simp] theorem ex6 {x : Xn} {e : En} {f : List RV → En → O} : RL.bo (.ex x e) f = .ex x e := id rfl
@[simp] theorem ex7 {x : Xn} {e : En} {f : List RV → En → RI} : RL.bi (.ex x e) f = .ex x e := id rfl
@[simp] theorem ex8 {x : Xn} {e : En} {f : Bool → En → R} : RT.bd (.ex x e) f = .ex x e := id rfl
@[simp] theorem ex9 {x : Xn} {e : En} {f : Bool → En → O} : RT.bo (.ex x e) f = .ex x e := id rfl
@[simp] theorem ex10 {x : Xn} {e : En} {f : List D → Option Nat → En → R} : RI.bd (.ex x e) f = .ex x e := id rfl
@[simp] theorem ex11 {x : Xn} {e : En} {f : List D → Option Nat → En → O} : RI.bo (.ex x e) f = .ex x e := id rfl
@[simp] theorem ex12 {x : Xn} {e : En} {f : En → O} : O.bd (.ex x e) f = .ex x e := id rfl
@[simp] theorem ex13 {x : Xn} {e : En} : asT (.ex x e) = .ex x e := id rfl
@[simp] theorem ex14 {x : Xn} {e : En} {f : RV → En → RL} : R.bl (.ex x e) f = .ex x e := id rfl
@[simp] theorem ex15 {x : Xn} {e : En} {f : List RV → En → RL} : RL.bl (.ex x e) f = .ex x e := id rfl
@[simp] theorem ex16 {md : List Md} {x : Xn} {e : En} : endR md (.ex x e) = if finL md e = true then .ex x (fins md e) else .st := id rfl
end Vc
end
section
set_option Elab.async false
set_option linter.all false
set_option maxRecDepth 100000
namespace Vc
open PySem PySem.Spec PyProof.Rows L2
def isW : D → Bool
  | .int _ => true
  | _ => false
section
variable {T : Nat → Option Df} {n : Nat}
theorem whole_any (h : H_is_whole T) (d : D) : run T (msOf T) (n + 1) i_is_whole [.v d] = .rt (.v (.bool (isW d))) [.no] := by
  rw [h.go]
  cases d <;> simp [runDf, exS.eq_1, exS.eq_2, exS.eq_3, exS.eq_4, exS.eq_5, exS.eq_6, exS.eq_7, exS.eq_8, exS.eq_9, exS.eq_12, exS.eq_13, exS.eq_14, exS.eq_15, exS.eq_16, exS.eq_17, exS.eq_18, exS.eq_19, exS.eq_20, exS.eq_21, exS.eq_22, evE.eq_1, evE.eq_2, evE.eq_3, evE.eq_4, evE.eq_5, evE.eq_6, evE.eq_7, evE.eq_8, evE.eq_9, evE.eq_10, evE.eq_11, evE.eq_12, evE.eq_13, evE.eq_14, evE.eq_15, evE.eq_16, evE.eq_17, evE.eq_18, evE.eq_19, evE.eq_20, evE.eq_21, evE.eq_22, evE.eq_23, evE.eq_24, evE.eq_30, evE.eq_31, evE.eq_32, evE.eq_33, evE.eq_35, evE.eq_36, evE.eq_37, evE.eq_38, evE.eq_39, evE.eq_41, evE.eq_42, evE.eq_43, evE.eq_44, evE.eq_45, evB, evJ, evTs, evI, outR, rngOf, itOf, mtTy, solid, puts, rvtOf, chsOf, slpD, isbD, newOk, setOs, d_is_whole, b_is_whole, isTy, isW]
end
end Vc
end
section
set_option Elab.async false
set_option linter.all false
set_option maxRecDepth 100000
namespace Vc
open PySem PySem.Spec PyProof.Rows L2
/-- what may be compared -/
def Ly (k : Nat) (d : D) : Prop := d.canLay0 = true ∧ d.depth ≤ k
theorem Ly.int {i : Int} : Ly 0 (.int i) := ⟨rfl, Nat.le_refl _⟩
theorem Ly.bl {b : Bool} : Ly 0 (.bool b) := ⟨rfl, Nat.le_refl _⟩
theorem Ly.str {x : Str} (h : (cpl x).all (· < 0x110000) = true) : Ly 0 (.str x) := ⟨(Fl.str (B := 10) h).lay, (Fl.str (B := 10) h).dep⟩
theorem Ly.up {k m : Nat} {d : D} (h : Ly k d) (hk : k ≤ m) : Ly m d := ⟨h.1, Nat.le_trans h.2 hk⟩
theorem lyA {k : Nat} : ∀ {ds : List D}, (∀ x ∈ ds, Ly k x) → PyData.canLayAll0 ds = true ∧ PyData.depthAll ds ≤ k
  | [], _ => ⟨rfl, Nat.zero_le _⟩
  | d :: ds, h => by
    obtain ⟨a, b⟩ := h d (by simp)
    obtain ⟨c, e⟩ := lyA fun x hx => h x (List.mem_cons_of_mem _ hx)
    constructor
    · show (PyData.canLay0 d && PyData.canLayAll0 ds) = true
      rw [a, c]; rfl
    · show max (PyData.depth d) (PyData.depthAll ds) ≤ k
      exact Nat.max_le.mpr ⟨b, e⟩
theorem Ly.list {k : Nat} {ds : List D} (h : ∀ x ∈ ds, Ly k x) : Ly (k + 1) (.list ds) := ⟨(lyA h).1, Nat.succ_le_succ (lyA h).2⟩
theorem Ly.ok {k : Nat} {d : D} (h : Ly k d) (hk : k ≤ 64) : okD d = true := by
  show (d.canLay0 && decide (d.depth ≤ 64)) = true
  rw [h.1, decide_eq_true (Nat.le_trans h.2 hk)]; rfl
theorem eq_nil0 {ds : List D} : eqD (.list ds) (.list []) = some (decide (ds = [])) := by
  have q : eqD (.list ds) (.list []) = if okD (.list ds) && okD (.list []) then some ((PyData.list ds).eqv (.list [])) else lenN (.list ds) (.list []) := rfl
  rw [q]
  cases ds with
  | nil => rfl
  | cons d ds =>
    split
    · rfl
    · rfl
section
variable {T : Nat → Option Df} {n : Nat}
end
end Vc
end
section
set_option Elab.async false
set_option linter.all false
set_option maxRecDepth 100000
namespace Vc
open PySem PySem.Spec PyProof.Rows L2
/-- the least number that may come behind new numbers g 1 .. g N -/
def ls (g : Nat → Int) (N : Nat) : Int := sg N fun j => if (N + 1) % (j + 1) = 0 then g (j + 1) else 0
theorem ls_congr {g k : Nat → Int} {N : Nat} (h : ∀ n, 1 ≤ n → n ≤ N → g n = k n) : ls g N = ls k N := sg_congr fun d hd => by rw [h (d + 1) (by omega) (by omega)]
theorem dv_ls {g : Nat → Int} {N : Nat} : dv (N + 1) g = ls g N + g (N + 1) := by
  unfold dv ls
  rw [sg_shift, sg]
  simp
/-- one number more -/
def up (g : Nat → Int) (N : Nat) (y : Int) : Nat → Int := fun k => if k = N + 1 then y else g k
theorem lvup_lo {g : Nat → Int} {N : Nat} {y : Int} {k : Nat} (h : k ≤ N) : up g N y k = g k := by unfold up; rw [if_neg (by omega)]
theorem lvup_hi {g : Nat → Int} {N : Nat} {y : Int} : up g N y (N + 1) = y := by unfold up; rw [if_pos rfl]
theorem tl_up {g : Nat → Int} {N : Nat} {y : Int} : tl (N + 1) (up g N y) = tl N g ++ [y] := by
  rw [tl_succ, lvup_hi, tl_congr fun n h1 h2 => lvup_lo h2]
/-- the row with new numbers g -/
def rwl (N : Nat) (g : Nat → Int) : List Int := tl N fun k => dv k g
@[simp] theorem rwl_len {N : Nat} {g : Nat → Int} : (rwl N g).length = N := tl_len
theorem rwl_up {g : Nat → Int} {N : Nat} {y : Int} : rwl (N + 1) (up g N y) = rwl N g ++ [ls g N + y] := by
  unfold rwl
  rw [tl_succ, dv_ls, lvup_hi, ls_congr fun n h1 h2 => lvup_lo h2, tl_congr fun n h1 h2 => dv_congr h1 fun d d1 d2 _ => lvup_lo (by omega)]
theorem ev_lcj2 {Φ : Ph} {ms : Nat → List Md} {s : Src} {i j : Nat} {ts : Exs} {elt : Ex} {e : En} {ds : List D} (p : Nat → Bool) (G : Nat → Int) (hs : evI Φ ms s e = .ok ds none e) (hij : i ≠ j) (hi : i < e.length) (hj : j < e.length) (hl : ds.length ≤ 16777216)
    (hd : ∀ k d, ds[k]? = some d → ∃ x y, d = .tuple [x, y] ∧ evTs Φ ms ts ((e.set i (.v x)).set j (.v y)) = .ok (p k) ((e.set i (.v x)).set j (.v y)) ∧ (p k = true → evE Φ ms elt ((e.set i (.v x)).set j (.v y)) = .ok (.v (.int (G k))) ((e.set i (.v x)).set j (.v y)))) :
    evE Φ ms (.lc s (.t [i, j]) [i, j] ts elt) e = .ok (.o (il (((List.range ds.length).filter p).map G))) e := by
  rw [ev_lcx2 p (fun k => .int (G k)) hs hij hi hj hl fun k d h => by
    obtain ⟨x, y, h1, h2, h3⟩ := hd k d h
    exact ⟨x, y, h1, h2, fun q => ⟨_, h3 q, rfl⟩⟩]
  unfold il
  rw [List.map_map]
  rfl
theorem lvtl_at {N k : Nat} {F : Nat → Int} {x : Int} (h : (tl N F)[k]? = some x) : k < N ∧ x = F (k + 1) := by
  have hk : k < N := by simpa using (List.getElem?_eq_some_iff.mp h).1
  rw [tl_get hk] at h
  exact ⟨hk, (Option.some.inj h).symm⟩
theorem lvmodz {a b : Nat} : (((a : Int) % (b : Int)) = 0) ↔ a % b = 0 := by omega
section
variable {T : Nat → Option Df} {n : Nat}
theorem least_run (h : H_least_coming T) {g : Nat → Int} {N : Nat} (hN : N ≤ 1000) : run T (msOf T) (n + 1) i_least_coming [.v (.list (il (tl N g)))] = .rt (.v (.int (ls g N))) [.no] := by
  have C : evE (run T (msOf T) n) (msOf T) c_least_coming_1 [.v (.list (il (tl N g))), .v (.int (N + 1)), .no, .no] = .ok (.o (il (((List.range N).filter fun k => decide ((N + 1) % (k + 1) = 0)).map fun k => g (k + 1)))) [.v (.list (il (tl N g))), .v (.int (N + 1)), .no, .no] := by
    rw [c_least_coming_1, ev_lcj2 (ds := enum (il (tl N g))) (fun k => decide ((N + 1) % (k + 1) = 0)) (fun k => g (k + 1)) (by simp [exS.eq_1, exS.eq_2, exS.eq_3, exS.eq_4, exS.eq_5, exS.eq_6, exS.eq_7, exS.eq_8, exS.eq_9, exS.eq_12, exS.eq_13, exS.eq_14, exS.eq_15, exS.eq_16, exS.eq_17, exS.eq_18, exS.eq_19, exS.eq_20, exS.eq_21, exS.eq_22, evE.eq_1, evE.eq_2, evE.eq_3, evE.eq_4, evE.eq_5, evE.eq_6, evE.eq_7, evE.eq_8, evE.eq_9, evE.eq_10, evE.eq_11, evE.eq_12, evE.eq_13, evE.eq_14, evE.eq_15, evE.eq_16, evE.eq_17, evE.eq_18, evE.eq_19, evE.eq_20, evE.eq_21, evE.eq_22, evE.eq_23, evE.eq_24, evE.eq_30, evE.eq_31, evE.eq_32, evE.eq_33, evE.eq_35, evE.eq_36, evE.eq_37, evE.eq_38, evE.eq_39, evE.eq_41, evE.eq_42, evE.eq_43, evE.eq_44, evE.eq_45, evB, evJ, evTs, evI, outR, rngOf, itOf, mtTy, solid, puts, rvtOf, chsOf, slpD, isbD, newOk, setOs, enuOf]) (by decide) (by simp) (by simp) (by simp; omega) fun k d hd => ?_]
    · simp
    · obtain ⟨x, hx, rfl⟩ := enum_il hd
      obtain ⟨hk, rfl⟩ := lvtl_at hx
      refine ⟨_, _, rfl, ?_, fun _ => by simp [exS.eq_1, exS.eq_2, exS.eq_3, exS.eq_4, exS.eq_5, exS.eq_6, exS.eq_7, exS.eq_8, exS.eq_9, exS.eq_12, exS.eq_13, exS.eq_14, exS.eq_15, exS.eq_16, exS.eq_17, exS.eq_18, exS.eq_19, exS.eq_20, exS.eq_21, exS.eq_22, evE.eq_1, evE.eq_2, evE.eq_3, evE.eq_4, evE.eq_5, evE.eq_6, evE.eq_7, evE.eq_8, evE.eq_9, evE.eq_10, evE.eq_11, evE.eq_12, evE.eq_13, evE.eq_14, evE.eq_15, evE.eq_16, evE.eq_17, evE.eq_18, evE.eq_19, evE.eq_20, evE.eq_21, evE.eq_22, evE.eq_23, evE.eq_24, evE.eq_30, evE.eq_31, evE.eq_32, evE.eq_33, evE.eq_35, evE.eq_36, evE.eq_37, evE.eq_38, evE.eq_39, evE.eq_41, evE.eq_42, evE.eq_43, evE.eq_44, evE.eq_45, evB, evJ, evTs, evI, outR, rngOf, itOf, mtTy, solid, puts, rvtOf, chsOf, slpD, isbD, newOk, setOs]⟩
      have p : (0 : Int) < (k : Int) + 1 := by omega
      have e : ((N : Int) + 1) % ((k : Int) + 1) = 0 ↔ (N + 1) % (k + 1) = 0 := by
        have := lvmodz (a := N + 1) (b := k + 1)
        simpa using this
      by_cases q : (N + 1) % (k + 1) = 0 <;> simp [exS.eq_1, exS.eq_2, exS.eq_3, exS.eq_4, exS.eq_5, exS.eq_6, exS.eq_7, exS.eq_8, exS.eq_9, exS.eq_12, exS.eq_13, exS.eq_14, exS.eq_15, exS.eq_16, exS.eq_17, exS.eq_18, exS.eq_19, exS.eq_20, exS.eq_21, exS.eq_22, evE.eq_1, evE.eq_2, evE.eq_3, evE.eq_4, evE.eq_5, evE.eq_6, evE.eq_7, evE.eq_8, evE.eq_9, evE.eq_10, evE.eq_11, evE.eq_12, evE.eq_13, evE.eq_14, evE.eq_15, evE.eq_16, evE.eq_17, evE.eq_18, evE.eq_19, evE.eq_20, evE.eq_21, evE.eq_22, evE.eq_23, evE.eq_24, evE.eq_30, evE.eq_31, evE.eq_32, evE.eq_33, evE.eq_35, evE.eq_36, evE.eq_37, evE.eq_38, evE.eq_39, evE.eq_41, evE.eq_42, evE.eq_43, evE.eq_44, evE.eq_45, evB, evJ, evTs, evI, outR, rngOf, itOf, mtTy, solid, puts, rvtOf, chsOf, slpD, isbD, newOk, setOs, p, e, q]
  have S := sg_sum (F := fun k => g (k + 1)) (p := fun k => decide ((N + 1) % (k + 1) = 0)) (n := N)
  simp only [decide_eq_true_eq] at S
  rw [h.go]
  simp [runDf, d_least_coming, b_least_coming, List.replicate]
  simp [exS.eq_1, exS.eq_2, exS.eq_3, exS.eq_4, exS.eq_5, exS.eq_6, exS.eq_7, exS.eq_8, exS.eq_9, exS.eq_12, exS.eq_13, exS.eq_14, exS.eq_15, exS.eq_16, exS.eq_17, exS.eq_18, exS.eq_19, exS.eq_20, exS.eq_21, exS.eq_22, evE.eq_1, evE.eq_2, evE.eq_3, evE.eq_4, evE.eq_5, evE.eq_6, evE.eq_7, evE.eq_8, evE.eq_9, evE.eq_10, evE.eq_11, evE.eq_12, evE.eq_13, evE.eq_14, evE.eq_15, evE.eq_16, evE.eq_17, evE.eq_18, evE.eq_19, evE.eq_20, evE.eq_21, evE.eq_22, evE.eq_23, evE.eq_24, evE.eq_30, evE.eq_31, evE.eq_32, evE.eq_33, evE.eq_35, evE.eq_36, evE.eq_37, evE.eq_38, evE.eq_39, evE.eq_41, evE.eq_42, evE.eq_43, evE.eq_44, evE.eq_45, evB, evJ, evTs, evI, outR, rngOf, itOf, mtTy, solid, puts, rvtOf, chsOf, slpD, isbD, newOk, setOs, C, S, ls]
theorem may_run (h : H_may_come T) {g : Nat → Int} {N : Nat} {x : Int} (hN : N ≤ 1000) : run T (msOf T) (n + 2) i_may_come [.v (.list (il (tl N g))), .v (.int x)] = .rt (.v (.bool (decide (ls g N ≤ x ∧ (x - ls g N) % ((N : Int) + 1) = 0)))) [.no, .no] := by
  have L := least_run (n := n) h.least_coming (g := g) hN
  have p : (0 : Int) < (N : Int) + 1 := by omega
  rw [h.go]
  by_cases a : ls g N ≤ x
  · simp [runDf, d_may_come, b_may_come, List.replicate]
    simp [exS.eq_1, exS.eq_2, exS.eq_3, exS.eq_4, exS.eq_5, exS.eq_6, exS.eq_7, exS.eq_8, exS.eq_9, exS.eq_12, exS.eq_13, exS.eq_14, exS.eq_15, exS.eq_16, exS.eq_17, exS.eq_18, exS.eq_19, exS.eq_20, exS.eq_21, exS.eq_22, evE.eq_1, evE.eq_2, evE.eq_3, evE.eq_4, evE.eq_5, evE.eq_6, evE.eq_7, evE.eq_8, evE.eq_9, evE.eq_10, evE.eq_11, evE.eq_12, evE.eq_13, evE.eq_14, evE.eq_15, evE.eq_16, evE.eq_17, evE.eq_18, evE.eq_19, evE.eq_20, evE.eq_21, evE.eq_22, evE.eq_23, evE.eq_24, evE.eq_30, evE.eq_31, evE.eq_32, evE.eq_33, evE.eq_35, evE.eq_36, evE.eq_37, evE.eq_38, evE.eq_39, evE.eq_41, evE.eq_42, evE.eq_43, evE.eq_44, evE.eq_45, evB, evJ, evTs, evI, outR, rngOf, itOf, mtTy, solid, puts, rvtOf, chsOf, slpD, isbD, newOk, setOs, evE.eq_25, evE.eq_26, evE.eq_28, evE.eq_29, evE.eq_40, evE.eq_46, allO, qArgs, qFin, callB, callV, prep, avs, lent, finOk, putB, backR, permd, cvR, flatC, atomD, h.least_coming.ms, L, a, p]
  · simp [runDf, d_may_come, b_may_come, List.replicate]
    simp [exS.eq_1, exS.eq_2, exS.eq_3, exS.eq_4, exS.eq_5, exS.eq_6, exS.eq_7, exS.eq_8, exS.eq_9, exS.eq_12, exS.eq_13, exS.eq_14, exS.eq_15, exS.eq_16, exS.eq_17, exS.eq_18, exS.eq_19, exS.eq_20, exS.eq_21, exS.eq_22, evE.eq_1, evE.eq_2, evE.eq_3, evE.eq_4, evE.eq_5, evE.eq_6, evE.eq_7, evE.eq_8, evE.eq_9, evE.eq_10, evE.eq_11, evE.eq_12, evE.eq_13, evE.eq_14, evE.eq_15, evE.eq_16, evE.eq_17, evE.eq_18, evE.eq_19, evE.eq_20, evE.eq_21, evE.eq_22, evE.eq_23, evE.eq_24, evE.eq_30, evE.eq_31, evE.eq_32, evE.eq_33, evE.eq_35, evE.eq_36, evE.eq_37, evE.eq_38, evE.eq_39, evE.eq_41, evE.eq_42, evE.eq_43, evE.eq_44, evE.eq_45, evB, evJ, evTs, evI, outR, rngOf, itOf, mtTy, solid, puts, rvtOf, chsOf, slpD, isbD, newOk, setOs, evE.eq_25, evE.eq_26, evE.eq_28, evE.eq_29, evE.eq_40, evE.eq_46, allO, qArgs, qFin, callB, callV, prep, avs, lent, finOk, putB, backR, permd, cvR, flatC, atomD, h.least_coming.ms, L, a]
/-- the lists of a live row -/
abbrev nbs (g : Nat → Int) (N : Nat) : List D := il (rwl N g)
abbrev nws (g : Nat → Int) (N : Nat) : List D := il (tl N g)
theorem lvput_run (h : H_Live_put T) {g : Nat → Int} {N : Nat} {x y : Int} (hN : N ≤ 900) (hx : x = ls g N + y) :
    run T (msOf T) (n + 2) i_Live_put [.q, .v (.int x), .m (nbs g N), .m (nws g N)] = .rt (.v .none) [.no, .no, .o (nbs (up g N y) (N + 1)), .o (nws (up g N y) (N + 1))] := by
  have L := least_run (n := n) h.least_coming (g := g) (N := N) (by omega)
  have e1 : x - ls g N = y := by omega
  have l1 : N < 16777216 := by omega
  unfold nbs nws
  rw [rwl_up, tl_up, ← hx, h.go]
  simp [runDf, d_Live_put, b_Live_put, List.replicate]
  simp [exS.eq_1, exS.eq_2, exS.eq_3, exS.eq_4, exS.eq_5, exS.eq_6, exS.eq_7, exS.eq_8, exS.eq_9, exS.eq_12, exS.eq_13, exS.eq_14, exS.eq_15, exS.eq_16, exS.eq_17, exS.eq_18, exS.eq_19, exS.eq_20, exS.eq_21, exS.eq_22, evE.eq_1, evE.eq_2, evE.eq_3, evE.eq_4, evE.eq_5, evE.eq_6, evE.eq_7, evE.eq_8, evE.eq_9, evE.eq_10, evE.eq_11, evE.eq_12, evE.eq_13, evE.eq_14, evE.eq_15, evE.eq_16, evE.eq_17, evE.eq_18, evE.eq_19, evE.eq_20, evE.eq_21, evE.eq_22, evE.eq_23, evE.eq_24, evE.eq_30, evE.eq_31, evE.eq_32, evE.eq_33, evE.eq_35, evE.eq_36, evE.eq_37, evE.eq_38, evE.eq_39, evE.eq_41, evE.eq_42, evE.eq_43, evE.eq_44, evE.eq_45, evB, evJ, evTs, evI, outR, rngOf, itOf, mtTy, solid, puts, rvtOf, chsOf, slpD, isbD, newOk, setOs, evE.eq_25, evE.eq_26, evE.eq_28, evE.eq_29, evE.eq_40, evE.eq_46, allO, qArgs, qFin, callB, callV, prep, avs, lent, finOk, putB, backR, permd, cvR, flatC, atomD, h.least_coming.ms, L, e1, l1, inits, slOf, fins, finL]
theorem tell_ok (h : H_Live_tell T) {g : Nat → Int} {N : Nat} {x y : Int} (hN : N ≤ 900) (hx : x = ls g N + y) (h0 : 0 ≤ y) (hd : y % ((N : Int) + 1) = 0) :
    run T (msOf T) (n + 3) i_Live_tell [.q, .v (.int x), .m (nbs g N), .m (nws g N)] = .rt (.v .none) [.no, .no, .o (nbs (up g N y) (N + 1)), .o (nws (up g N y) (N + 1))] := by
  have M := may_run (n := n) h.may_come (g := g) (N := N) (x := x) (by omega)
  have P := lvput_run (n := n) h.Live_put hN hx
  have W := whole_any (n := n + 1) h.is_whole (.int x)
  have e1 : x - ls g N = y := by omega
  have e2 : ls g N ≤ x := by omega
  rw [e1] at M
  simp only [e2, hd, and_self, decide_true] at M
  rw [h.go]
  simp only [nbs, nws] at *
  generalize il (rwl N g) = A, il (tl N g) = B, il (rwl (N + 1) (up g N y)) = A', il (tl (N + 1) (up g N y)) = B' at *
  simp [runDf, d_Live_tell, b_Live_tell, List.replicate]
  simp [exS.eq_1, exS.eq_2, exS.eq_3, exS.eq_4, exS.eq_5, exS.eq_6, exS.eq_7, exS.eq_8, exS.eq_9, exS.eq_12, exS.eq_13, exS.eq_14, exS.eq_15, exS.eq_16, exS.eq_17, exS.eq_18, exS.eq_19, exS.eq_20, exS.eq_21, exS.eq_22, evE.eq_1, evE.eq_2, evE.eq_3, evE.eq_4, evE.eq_5, evE.eq_6, evE.eq_7, evE.eq_8, evE.eq_9, evE.eq_10, evE.eq_11, evE.eq_12, evE.eq_13, evE.eq_14, evE.eq_15, evE.eq_16, evE.eq_17, evE.eq_18, evE.eq_19, evE.eq_20, evE.eq_21, evE.eq_22, evE.eq_23, evE.eq_24, evE.eq_30, evE.eq_31, evE.eq_32, evE.eq_33, evE.eq_35, evE.eq_36, evE.eq_37, evE.eq_38, evE.eq_39, evE.eq_41, evE.eq_42, evE.eq_43, evE.eq_44, evE.eq_45, evB, evJ, evTs, evI, outR, rngOf, itOf, mtTy, solid, puts, rvtOf, chsOf, slpD, isbD, newOk, setOs, evE.eq_25, evE.eq_26, evE.eq_28, evE.eq_29, evE.eq_40, evE.eq_46, allO, qArgs, qFin, callB, callV, prep, avs, lent, finOk, putB, backR, permd, cvR, flatC, atomD, h.may_come.ms, h.Live_put.ms, h.is_whole.ms, isW, M, P, W, inits, slOf, fins, finL]
theorem tell_bar (h : H_Live_tell T) {g : Nat → Int} {N : Nat} {x : Int} (hN : N ≤ 900) (hx : ¬ (ls g N ≤ x ∧ (x - ls g N) % ((N : Int) + 1) = 0)) :
    run T (msOf T) (n + 3) i_Live_tell [.q, .v (.int x), .m (nbs g N), .m (nws g N)] = .ex ⟨18, some (.int (N + 1))⟩ [.no, .no, .o (nbs g N), .o (nws g N)] := by
  have M := may_run (n := n) h.may_come (g := g) (N := N) (x := x) (by omega)
  have W := whole_any (n := n + 1) h.is_whole (.int x)
  rw [decide_eq_false hx] at M
  rw [h.go]
  have ll : (il (rwl N g)).length = N := by simp
  simp only [nbs, nws] at *
  generalize il (rwl N g) = A, il (tl N g) = B at *
  simp [runDf, d_Live_tell, b_Live_tell, List.replicate]
  simp [exS.eq_1, exS.eq_2, exS.eq_3, exS.eq_4, exS.eq_5, exS.eq_6, exS.eq_7, exS.eq_8, exS.eq_9, exS.eq_12, exS.eq_13, exS.eq_14, exS.eq_15, exS.eq_16, exS.eq_17, exS.eq_18, exS.eq_19, exS.eq_20, exS.eq_21, exS.eq_22, evE.eq_1, evE.eq_2, evE.eq_3, evE.eq_4, evE.eq_5, evE.eq_6, evE.eq_7, evE.eq_8, evE.eq_9, evE.eq_10, evE.eq_11, evE.eq_12, evE.eq_13, evE.eq_14, evE.eq_15, evE.eq_16, evE.eq_17, evE.eq_18, evE.eq_19, evE.eq_20, evE.eq_21, evE.eq_22, evE.eq_23, evE.eq_24, evE.eq_30, evE.eq_31, evE.eq_32, evE.eq_33, evE.eq_35, evE.eq_36, evE.eq_37, evE.eq_38, evE.eq_39, evE.eq_41, evE.eq_42, evE.eq_43, evE.eq_44, evE.eq_45, evB, evJ, evTs, evI, outR, rngOf, itOf, mtTy, solid, puts, rvtOf, chsOf, slpD, isbD, newOk, setOs, evE.eq_25, evE.eq_26, evE.eq_28, evE.eq_29, evE.eq_40, evE.eq_46, allO, qArgs, qFin, callB, callV, prep, avs, lent, finOk, putB, backR, permd, cvR, flatC, atomD, h.may_come.ms, h.Live_put.ms, h.is_whole.ms, isW, M, W, inits, slOf, fins, finL, ll]
theorem lay_ok (h : H_Live_lay T) {g : Nat → Int} {N : Nat} {c : Int} (hN : N ≤ 900) (h0 : 0 ≤ c) (hb : Bd 5000 c) :
    run T (msOf T) (n + 3) i_Live_lay [.q, .v (.int c), .m (nbs g N), .m (nws g N)] = .rt (.v .none) [.no, .no, .o (nbs (up g N (c * ((N : Int) + 1))) (N + 1)), .o (nws (up g N (c * ((N : Int) + 1))) (N + 1))] := by
  have L := least_run (n := n + 1) h.least_coming (g := g) (N := N) (by omega)
  have P := lvput_run (n := n) h.Live_put (g := g) (N := N) (x := ls g N + c * ((N : Int) + 1)) hN rfl
  have W := whole_any (n := n + 1) h.is_whole (.int c)
  have m : mulOk c ((N : Int) + 1) = true := mulOk_of hb (n := 20) (.of' (by omega) (by omega)) (by decide)
  have hc : ¬ c < 0 := by omega
  rw [h.go]
  have ll : (il (rwl N g)).length = N := by simp
  simp only [nbs, nws] at *
  generalize il (rwl N g) = A, il (tl N g) = B, il (rwl (N + 1) (up g N (c * ((N : Int) + 1)))) = A', il (tl (N + 1) (up g N (c * ((N : Int) + 1)))) = B' at *
  simp [runDf, d_Live_lay, b_Live_lay, List.replicate]
  simp [exS.eq_1, exS.eq_2, exS.eq_3, exS.eq_4, exS.eq_5, exS.eq_6, exS.eq_7, exS.eq_8, exS.eq_9, exS.eq_12, exS.eq_13, exS.eq_14, exS.eq_15, exS.eq_16, exS.eq_17, exS.eq_18, exS.eq_19, exS.eq_20, exS.eq_21, exS.eq_22, evE.eq_1, evE.eq_2, evE.eq_3, evE.eq_4, evE.eq_5, evE.eq_6, evE.eq_7, evE.eq_8, evE.eq_9, evE.eq_10, evE.eq_11, evE.eq_12, evE.eq_13, evE.eq_14, evE.eq_15, evE.eq_16, evE.eq_17, evE.eq_18, evE.eq_19, evE.eq_20, evE.eq_21, evE.eq_22, evE.eq_23, evE.eq_24, evE.eq_30, evE.eq_31, evE.eq_32, evE.eq_33, evE.eq_35, evE.eq_36, evE.eq_37, evE.eq_38, evE.eq_39, evE.eq_41, evE.eq_42, evE.eq_43, evE.eq_44, evE.eq_45, evB, evJ, evTs, evI, outR, rngOf, itOf, mtTy, solid, puts, rvtOf, chsOf, slpD, isbD, newOk, setOs, evE.eq_25, evE.eq_26, evE.eq_28, evE.eq_29, evE.eq_40, evE.eq_46, allO, qArgs, qFin, callB, callV, prep, avs, lent, finOk, putB, backR, permd, cvR, flatC, atomD, h.least_coming.ms, h.Live_put.ms, h.is_whole.ms, isW, L, P, W, inits, slOf, fins, finL, ll, m, hc]
def isCt : D → Bool
  | .int i => decide (0 ≤ i)
  | _ => false
theorem lay_no (h : H_Live_lay T) {A B : List D} {d : D} (hd : isCt d = false) : run T (msOf T) (n + 3) i_Live_lay [.q, .v d, .m A, .m B] = .ex ⟨15, none⟩ [.no, .no, .o A, .o B] := by
  have W := whole_any (n := n + 1) h.is_whole d
  rw [h.go]
  simp [runDf, d_Live_lay, b_Live_lay, List.replicate]
  cases d with
  | int i =>
    have hi : i < 0 := by simpa [isCt] using hd
    simp [exS.eq_1, exS.eq_2, exS.eq_3, exS.eq_4, exS.eq_5, exS.eq_6, exS.eq_7, exS.eq_8, exS.eq_9, exS.eq_12, exS.eq_13, exS.eq_14, exS.eq_15, exS.eq_16, exS.eq_17, exS.eq_18, exS.eq_19, exS.eq_20, exS.eq_21, exS.eq_22, evE.eq_1, evE.eq_2, evE.eq_3, evE.eq_4, evE.eq_5, evE.eq_6, evE.eq_7, evE.eq_8, evE.eq_9, evE.eq_10, evE.eq_11, evE.eq_12, evE.eq_13, evE.eq_14, evE.eq_15, evE.eq_16, evE.eq_17, evE.eq_18, evE.eq_19, evE.eq_20, evE.eq_21, evE.eq_22, evE.eq_23, evE.eq_24, evE.eq_30, evE.eq_31, evE.eq_32, evE.eq_33, evE.eq_35, evE.eq_36, evE.eq_37, evE.eq_38, evE.eq_39, evE.eq_41, evE.eq_42, evE.eq_43, evE.eq_44, evE.eq_45, evB, evJ, evTs, evI, outR, rngOf, itOf, mtTy, solid, puts, rvtOf, chsOf, slpD, isbD, newOk, setOs, evE.eq_25, evE.eq_26, evE.eq_28, evE.eq_29, evE.eq_40, evE.eq_46, allO, qArgs, qFin, callB, callV, prep, avs, lent, finOk, putB, backR, permd, cvR, flatC, atomD, h.is_whole.ms, W, isW, inits, slOf, fins, finL, hi]
  | _ => simp [exS.eq_1, exS.eq_2, exS.eq_3, exS.eq_4, exS.eq_5, exS.eq_6, exS.eq_7, exS.eq_8, exS.eq_9, exS.eq_12, exS.eq_13, exS.eq_14, exS.eq_15, exS.eq_16, exS.eq_17, exS.eq_18, exS.eq_19, exS.eq_20, exS.eq_21, exS.eq_22, evE.eq_1, evE.eq_2, evE.eq_3, evE.eq_4, evE.eq_5, evE.eq_6, evE.eq_7, evE.eq_8, evE.eq_9, evE.eq_10, evE.eq_11, evE.eq_12, evE.eq_13, evE.eq_14, evE.eq_15, evE.eq_16, evE.eq_17, evE.eq_18, evE.eq_19, evE.eq_20, evE.eq_21, evE.eq_22, evE.eq_23, evE.eq_24, evE.eq_30, evE.eq_31, evE.eq_32, evE.eq_33, evE.eq_35, evE.eq_36, evE.eq_37, evE.eq_38, evE.eq_39, evE.eq_41, evE.eq_42, evE.eq_43, evE.eq_44, evE.eq_45, evB, evJ, evTs, evI, outR, rngOf, itOf, mtTy, solid, puts, rvtOf, chsOf, slpD, isbD, newOk, setOs, evE.eq_25, evE.eq_26, evE.eq_28, evE.eq_29, evE.eq_40, evE.eq_46, allO, qArgs, qFin, callB, callV, prep, avs, lent, finOk, putB, backR, permd, cvR, flatC, atomD, h.is_whole.ms, W, isW, inits, slOf, fins, finL]
theorem undo_ok (h : H_Live_undo T) {g : Nat → Int} {N : Nat} : run T (msOf T) (n + 1) i_Live_undo [.q, .m (nbs g (N + 1)), .m (nws g (N + 1))] = .rt (.v .none) [.no, .o (nbs g N), .o (nws g N)] := by
  have e1 : rwl (N + 1) g = rwl N g ++ [dv (N + 1) g] := tl_succ
  have e2 : tl (N + 1) g = tl N g ++ [g (N + 1)] := tl_succ
  rw [h.go]
  simp only [nbs, nws, e1, e2, ← il_app1]
  have z1 : eqD (.list (il (rwl N g) ++ [.int (dv (N + 1) g)])) (.list []) = some false := by
    rw [il_app1, eqD_il0]
    simp
  have l1 : (il (rwl N g)).length = N := by simp
  have l2 : (il (tl N g)).length = N := by simp
  generalize il (rwl N g) = A, il (tl N g) = B at *
  simp [runDf, d_Live_undo, b_Live_undo, List.replicate]
  simp [exS.eq_1, exS.eq_2, exS.eq_3, exS.eq_4, exS.eq_5, exS.eq_6, exS.eq_7, exS.eq_8, exS.eq_9, exS.eq_12, exS.eq_13, exS.eq_14, exS.eq_15, exS.eq_16, exS.eq_17, exS.eq_18, exS.eq_19, exS.eq_20, exS.eq_21, exS.eq_22, evE.eq_1, evE.eq_2, evE.eq_3, evE.eq_4, evE.eq_5, evE.eq_6, evE.eq_7, evE.eq_8, evE.eq_9, evE.eq_10, evE.eq_11, evE.eq_12, evE.eq_13, evE.eq_14, evE.eq_15, evE.eq_16, evE.eq_17, evE.eq_18, evE.eq_19, evE.eq_20, evE.eq_21, evE.eq_22, evE.eq_23, evE.eq_24, evE.eq_30, evE.eq_31, evE.eq_32, evE.eq_33, evE.eq_35, evE.eq_36, evE.eq_37, evE.eq_38, evE.eq_39, evE.eq_41, evE.eq_42, evE.eq_43, evE.eq_44, evE.eq_45, evB, evJ, evTs, evI, outR, rngOf, itOf, mtTy, solid, puts, rvtOf, chsOf, slpD, isbD, newOk, setOs, muD, inits, slOf, fins, finL, z1, l1, l2]
theorem undo_no (h : H_Live_undo T) : run T (msOf T) (n + 1) i_Live_undo [.q, .m [], .m []] = .ex ⟨16, none⟩ [.no, .o [], .o []] := by
  rw [h.go]
  simp [runDf, d_Live_undo, b_Live_undo, List.replicate]
  simp [exS.eq_1, exS.eq_2, exS.eq_3, exS.eq_4, exS.eq_5, exS.eq_6, exS.eq_7, exS.eq_8, exS.eq_9, exS.eq_12, exS.eq_13, exS.eq_14, exS.eq_15, exS.eq_16, exS.eq_17, exS.eq_18, exS.eq_19, exS.eq_20, exS.eq_21, exS.eq_22, evE.eq_1, evE.eq_2, evE.eq_3, evE.eq_4, evE.eq_5, evE.eq_6, evE.eq_7, evE.eq_8, evE.eq_9, evE.eq_10, evE.eq_11, evE.eq_12, evE.eq_13, evE.eq_14, evE.eq_15, evE.eq_16, evE.eq_17, evE.eq_18, evE.eq_19, evE.eq_20, evE.eq_21, evE.eq_22, evE.eq_23, evE.eq_24, evE.eq_30, evE.eq_31, evE.eq_32, evE.eq_33, evE.eq_35, evE.eq_36, evE.eq_37, evE.eq_38, evE.eq_39, evE.eq_41, evE.eq_42, evE.eq_43, evE.eq_44, evE.eq_45, evB, evJ, evTs, evI, outR, rngOf, itOf, mtTy, solid, puts, rvtOf, chsOf, slpD, isbD, newOk, setOs, inits, slOf, fins, finL, eqD_nn]
theorem coming_run (h : H_Live_coming T) {g : Nat → Int} {N : Nat} (hN : N ≤ 900) : run T (msOf T) (n + 2) i_Live_coming [.q, .m (nbs g N), .m (nws g N)] = .rt (.v (.tuple [.int (ls g N), .int (N + 1)])) [.no, .o (nbs g N), .o (nws g N)] := by
  have L := least_run (n := n) h.least_coming (g := g) (N := N) (by omega)
  rw [h.go]
  have ll : (il (rwl N g)).length = N := by simp
  simp only [nbs, nws] at *
  generalize il (rwl N g) = A, il (tl N g) = B at *
  simp [runDf, d_Live_coming, b_Live_coming, List.replicate]
  simp [exS.eq_1, exS.eq_2, exS.eq_3, exS.eq_4, exS.eq_5, exS.eq_6, exS.eq_7, exS.eq_8, exS.eq_9, exS.eq_12, exS.eq_13, exS.eq_14, exS.eq_15, exS.eq_16, exS.eq_17, exS.eq_18, exS.eq_19, exS.eq_20, exS.eq_21, exS.eq_22, evE.eq_1, evE.eq_2, evE.eq_3, evE.eq_4, evE.eq_5, evE.eq_6, evE.eq_7, evE.eq_8, evE.eq_9, evE.eq_10, evE.eq_11, evE.eq_12, evE.eq_13, evE.eq_14, evE.eq_15, evE.eq_16, evE.eq_17, evE.eq_18, evE.eq_19, evE.eq_20, evE.eq_21, evE.eq_22, evE.eq_23, evE.eq_24, evE.eq_30, evE.eq_31, evE.eq_32, evE.eq_33, evE.eq_35, evE.eq_36, evE.eq_37, evE.eq_38, evE.eq_39, evE.eq_41, evE.eq_42, evE.eq_43, evE.eq_44, evE.eq_45, evB, evJ, evTs, evI, outR, rngOf, itOf, mtTy, solid, puts, rvtOf, chsOf, slpD, isbD, newOk, setOs, evE.eq_25, evE.eq_26, evE.eq_28, evE.eq_29, evE.eq_40, evE.eq_46, allO, qArgs, qFin, callB, callV, prep, avs, lent, finOk, putB, backR, permd, cvR, flatC, atomD, h.least_coming.ms, L, inits, slOf, fins, finL, ll]
theorem lvrow_run (h : H_Live_row T) {A B : List D} : run T (msOf T) (n + 1) i_Live_row [.q, .m A, .m B] = .rt (.o A) [.no, .o A, .o B] := by
  rw [h.go]
  simp [runDf, d_Live_row, b_Live_row, List.replicate]
  simp [exS.eq_1, exS.eq_2, exS.eq_3, exS.eq_4, exS.eq_5, exS.eq_6, exS.eq_7, exS.eq_8, exS.eq_9, exS.eq_12, exS.eq_13, exS.eq_14, exS.eq_15, exS.eq_16, exS.eq_17, exS.eq_18, exS.eq_19, exS.eq_20, exS.eq_21, exS.eq_22, evE.eq_1, evE.eq_2, evE.eq_3, evE.eq_4, evE.eq_5, evE.eq_6, evE.eq_7, evE.eq_8, evE.eq_9, evE.eq_10, evE.eq_11, evE.eq_12, evE.eq_13, evE.eq_14, evE.eq_15, evE.eq_16, evE.eq_17, evE.eq_18, evE.eq_19, evE.eq_20, evE.eq_21, evE.eq_22, evE.eq_23, evE.eq_24, evE.eq_30, evE.eq_31, evE.eq_32, evE.eq_33, evE.eq_35, evE.eq_36, evE.eq_37, evE.eq_38, evE.eq_39, evE.eq_41, evE.eq_42, evE.eq_43, evE.eq_44, evE.eq_45, evB, evJ, evTs, evI, outR, rngOf, itOf, mtTy, solid, puts, rvtOf, chsOf, slpD, isbD, newOk, setOs, inits, slOf, fins, finL]
theorem lvlen_run (h : H_Live___len__ T) {A B : List D} : run T (msOf T) (n + 1) i_Live___len__ [.q, .m A, .m B] = .rt (.v (.int A.length)) [.no, .o A, .o B] := by
  rw [h.go]
  simp [runDf, d_Live___len__, b_Live___len__, List.replicate]
  simp [exS.eq_1, exS.eq_2, exS.eq_3, exS.eq_4, exS.eq_5, exS.eq_6, exS.eq_7, exS.eq_8, exS.eq_9, exS.eq_12, exS.eq_13, exS.eq_14, exS.eq_15, exS.eq_16, exS.eq_17, exS.eq_18, exS.eq_19, exS.eq_20, exS.eq_21, exS.eq_22, evE.eq_1, evE.eq_2, evE.eq_3, evE.eq_4, evE.eq_5, evE.eq_6, evE.eq_7, evE.eq_8, evE.eq_9, evE.eq_10, evE.eq_11, evE.eq_12, evE.eq_13, evE.eq_14, evE.eq_15, evE.eq_16, evE.eq_17, evE.eq_18, evE.eq_19, evE.eq_20, evE.eq_21, evE.eq_22, evE.eq_23, evE.eq_24, evE.eq_30, evE.eq_31, evE.eq_32, evE.eq_33, evE.eq_35, evE.eq_36, evE.eq_37, evE.eq_38, evE.eq_39, evE.eq_41, evE.eq_42, evE.eq_43, evE.eq_44, evE.eq_45, evB, evJ, evTs, evI, outR, rngOf, itOf, mtTy, solid, puts, rvtOf, chsOf, slpD, isbD, newOk, setOs, inits, slOf, fins, finL]
theorem things_run (h : H_Live_things T) {A : List D} {l : List Int} : run T (msOf T) (n + 1) i_Live_things [.q, .m A, .m (il l)] = .rt (.v (.int l.sum)) [.no, .o A, .o (il l)] := by
  rw [h.go]
  have e := il_ints (l := l)
  generalize il l = B at *
  simp [runDf, d_Live_things, b_Live_things, List.replicate]
  simp [exS.eq_1, exS.eq_2, exS.eq_3, exS.eq_4, exS.eq_5, exS.eq_6, exS.eq_7, exS.eq_8, exS.eq_9, exS.eq_12, exS.eq_13, exS.eq_14, exS.eq_15, exS.eq_16, exS.eq_17, exS.eq_18, exS.eq_19, exS.eq_20, exS.eq_21, exS.eq_22, evE.eq_1, evE.eq_2, evE.eq_3, evE.eq_4, evE.eq_5, evE.eq_6, evE.eq_7, evE.eq_8, evE.eq_9, evE.eq_10, evE.eq_11, evE.eq_12, evE.eq_13, evE.eq_14, evE.eq_15, evE.eq_16, evE.eq_17, evE.eq_18, evE.eq_19, evE.eq_20, evE.eq_21, evE.eq_22, evE.eq_23, evE.eq_24, evE.eq_30, evE.eq_31, evE.eq_32, evE.eq_33, evE.eq_35, evE.eq_36, evE.eq_37, evE.eq_38, evE.eq_39, evE.eq_41, evE.eq_42, evE.eq_43, evE.eq_44, evE.eq_45, evB, evJ, evTs, evI, outR, rngOf, itOf, mtTy, solid, puts, rvtOf, chsOf, slpD, isbD, newOk, setOs, inits, slOf, fins, finL, e]
/-- the rings of new numbers g -/
def rgs (N : Nat) (g : Nat → Int) : List Int := tl N fun k => g k / (k : Int)
end
end Vc
end
section
set_option Elab.async false
set_option linter.all false
set_option maxRecDepth 100000
namespace Vc
open PySem PySem.Spec PyProof.Rows L2
theorem lc_lk2 {i j l : Nat} {fg : En → R} {g : Nat → D} (hij : i ≠ j) (hil : i ≠ l) (hjl : j ≠ l) : ∀ (ds : List D) (k0 : Nat) (e e0 : En), e0.set l .no = e0 → (∀ x y, ((e.set l .no).set i x).set j y = (e0.set i x).set j y) →
    (∀ k d, ds[k]? = some d → ∃ x y, d = .tuple [x, y] ∧ ∃ r, fg ((e0.set i (.v x)).set j (.v y)) = .ok r ((e0.set i (.v x)).set j (.v y)) ∧ toV ((e0.set i (.v x)).set j (.v y)) r = some (g (k0 + k), (e0.set i (.v x)).set j (.v y))) →
    ∃ e', lcGo (.t [i, j]) [i, j, l] (fun e => .ok true e) fg ds e = .ok ((List.range' k0 ds.length).map g) e' ∧ ∀ x y, ((e'.set l .no).set i x).set j y = (e0.set i x).set j y
  | [], k0, e, e0, _, h, _ => ⟨e, rfl, h⟩
  | d :: ds, k0, e, e0, h0, h, hd => by
    obtain ⟨x, y, rfl, r, h5, h6⟩ := hd 0 d rfl
    rw [Nat.add_zero] at h6
    have two : ∀ (l : En) (a b c d : Sl), (((l.set i a).set j b).set i c).set j d = (l.set i c).set j d := fun l a b c d => by
      rw [List.set_comm _ _ (Ne.symm hij), List.set_set, List.set_set]
    have wl : ((e0.set i (.v x)).set j (.v y)).set l .no = (e0.set i (.v x)).set j (.v y) := by
      rw [List.set_comm _ _ hjl, List.set_comm _ _ hil, h0]
    obtain ⟨e', h3, h4⟩ := lc_lk2 (g := g) hij hil hjl ds (k0 + 1) ((e0.set i (.v x)).set j (.v y)) e0 h0 (fun a b => by rw [wl]; exact two _ _ _ _ _) fun k d' hd' => by
      have := hd (k + 1) d' (by simpa using hd')
      rw [show k0 + (k + 1) = k0 + 1 + k by omega] at this
      exact this
    refine ⟨e', ?_, h4⟩
    unfold lcGo
    have hw : asgT (.t [i, j]) (.tuple [x, y]) (wipeE e [i, j, l]) = some ((e0.set i (.v x)).set j (.v y)) := by
      show some (((((e.set l Sl.no).set j Sl.no).set i Sl.no).set i (.v x)).set j (.v y)) = _
      rw [List.set_set, List.set_comm _ _ (Ne.symm hij), List.set_set, h]
    rw [hw, List.length_cons, List.range'_succ]
    simp only [h5, h6, h3, List.map_cons]
theorem back_lk2 {i j l : Nat} {e e1 : En} (hij : i ≠ j) (hil : i ≠ l) (hjl : j ≠ l) (hi : i < e1.length) (hj : j < e1.length) (hl : l < e1.length) (h : ∀ x y, ((e.set l .no).set i x).set j y = ((e1.set l .no).set i x).set j y) : backE e e1 [i, j, l] = e1 := by
  show ((e.set l (e1[l]?.getD .no)).set j (e1[j]?.getD .no)).set i (e1[i]?.getD .no) = e1
  have hlen : e.length = e1.length := by simpa using congrArg List.length (h .no .no)
  refine List.ext_getElem? fun m => ?_
  by_cases a : i = m
  · subst a
    rw [List.getElem?_set_self (by simpa [hlen] using hi), List.getElem?_eq_getElem hi]; rfl
  · rw [List.getElem?_set_ne a]
    by_cases b : j = m
    · subst b
      rw [List.getElem?_set_self (by simpa [hlen] using hj), List.getElem?_eq_getElem hj]; rfl
    · rw [List.getElem?_set_ne b]
      by_cases c : l = m
      · subst c
        rw [List.getElem?_set_self (by simpa [hlen] using hl), List.getElem?_eq_getElem hl]; rfl
      · rw [List.getElem?_set_ne c]
        have := congrArg (·[m]?) (h .no .no)
        simp only [List.getElem?_set_ne b, List.getElem?_set_ne a, List.getElem?_set_ne c] at this
        exact this
/-- [elt for i, j in .. ] of integers over a list that is held -/
theorem ev_lcl2 {Φ : Ph} {ms : Nat → List Md} {s : Src} {i j l : Nat} {elt : Ex} {e : En} {ds : List D} (G : Nat → Int) (hs : evI Φ ms s e = .ok ds (some l) e) (hij : i ≠ j) (hil : i ≠ l) (hjl : j ≠ l) (hi : i < e.length) (hj : j < e.length) (hll : l < e.length) (hl : ds.length ≤ 16777216)
    (hd : ∀ k d, ds[k]? = some d → ∃ x y, d = .tuple [x, y] ∧ evE Φ ms elt (((e.set l .no).set i (.v x)).set j (.v y)) = .ok (.v (.int (G k))) (((e.set l .no).set i (.v x)).set j (.v y))) :
    evE Φ ms (.lc s (.t [i, j]) [i, j] .nil elt) e = .ok (.o (il ((List.range ds.length).map G))) e := by
  obtain ⟨e', h1, h2⟩ := lc_lk2 (fg := fun e => evE Φ ms elt e) (g := fun k => .int (G k)) hij hil hjl ds 0 e (e.set l .no) (by rw [List.set_set]) (fun _ _ => rfl) fun k d h => by
    obtain ⟨x, y, h1, h2⟩ := hd k d h
    exact ⟨x, y, h1, _, h2, by rw [Nat.zero_add]; rfl⟩
  have q : (fun e => evTs Φ ms .nil e) = fun e => RT.ok true e := by funext e; rw [evTs]
  have b := back_lk2 hij hil hjl hi hj hll h2
  simp only [evE, hs, RI.bd, Option.toList_some, List.cons_append, List.nil_append]
  rw [q, h1]
  simp only [b]
  rw [if_pos (lenL (by simpa using hl)), ← List.range_eq_range']
  unfold il
  rw [List.map_map]
  rfl
section
variable {T : Nat → Option Df} {n : Nat}
theorem rings_lv (h : H_Live_rings T) {A : List D} {g : Nat → Int} {N : Nat} (hN : N ≤ 1000) : run T (msOf T) (n + 1) i_Live_rings [.q, .m A, .m (nws g N)] = .rt (.o (il (rgs N g))) [.no, .o A, .o (nws g N)] := by
  have C : evE (run T (msOf T) n) (msOf T) c_Live_rings_1 [.no, .o A, .o (nws g N), .no, .no] = .ok (.o (il (rgs N g))) [.no, .o A, .o (nws g N), .no, .no] := by
    rw [c_Live_rings_1, ev_lcl2 (ds := enum (nws g N)) (l := 2) (fun k => g (k + 1) / ((k + 1 : Nat) : Int)) (by simp [exS.eq_1, exS.eq_2, exS.eq_3, exS.eq_4, exS.eq_5, exS.eq_6, exS.eq_7, exS.eq_8, exS.eq_9, exS.eq_12, exS.eq_13, exS.eq_14, exS.eq_15, exS.eq_16, exS.eq_17, exS.eq_18, exS.eq_19, exS.eq_20, exS.eq_21, exS.eq_22, evE.eq_1, evE.eq_2, evE.eq_3, evE.eq_4, evE.eq_5, evE.eq_6, evE.eq_7, evE.eq_8, evE.eq_9, evE.eq_10, evE.eq_11, evE.eq_12, evE.eq_13, evE.eq_14, evE.eq_15, evE.eq_16, evE.eq_17, evE.eq_18, evE.eq_19, evE.eq_20, evE.eq_21, evE.eq_22, evE.eq_23, evE.eq_24, evE.eq_30, evE.eq_31, evE.eq_32, evE.eq_33, evE.eq_35, evE.eq_36, evE.eq_37, evE.eq_38, evE.eq_39, evE.eq_41, evE.eq_42, evE.eq_43, evE.eq_44, evE.eq_45, evB, evJ, evTs, evI, outR, rngOf, itOf, mtTy, solid, puts, rvtOf, chsOf, slpD, isbD, newOk, setOs, enuOf]) (by decide) (by decide) (by decide) (by simp) (by simp) (by simp) (by simp; omega) fun k d hd => ?_]
    · simp [rgs, tl]
    · obtain ⟨x, hx, rfl⟩ := enum_il hd
      obtain ⟨hk, rfl⟩ := lvtl_at hx
      refine ⟨_, _, rfl, ?_⟩
      have p : divOk ((k : Int) + 1) = true := divOk_of (m := 20) (.of' (by omega) (by omega)) (by omega) (by decide)
      simp [exS.eq_1, exS.eq_2, exS.eq_3, exS.eq_4, exS.eq_5, exS.eq_6, exS.eq_7, exS.eq_8, exS.eq_9, exS.eq_12, exS.eq_13, exS.eq_14, exS.eq_15, exS.eq_16, exS.eq_17, exS.eq_18, exS.eq_19, exS.eq_20, exS.eq_21, exS.eq_22, evE.eq_1, evE.eq_2, evE.eq_3, evE.eq_4, evE.eq_5, evE.eq_6, evE.eq_7, evE.eq_8, evE.eq_9, evE.eq_10, evE.eq_11, evE.eq_12, evE.eq_13, evE.eq_14, evE.eq_15, evE.eq_16, evE.eq_17, evE.eq_18, evE.eq_19, evE.eq_20, evE.eq_21, evE.eq_22, evE.eq_23, evE.eq_24, evE.eq_30, evE.eq_31, evE.eq_32, evE.eq_33, evE.eq_35, evE.eq_36, evE.eq_37, evE.eq_38, evE.eq_39, evE.eq_41, evE.eq_42, evE.eq_43, evE.eq_44, evE.eq_45, evB, evJ, evTs, evI, outR, rngOf, itOf, mtTy, solid, puts, rvtOf, chsOf, slpD, isbD, newOk, setOs, p]
  rw [h.go]
  generalize nws g N = B at *
  generalize il (rgs N g) = R at *
  simp [runDf, d_Live_rings, b_Live_rings, List.replicate]
  simp [exS.eq_1, exS.eq_2, exS.eq_3, exS.eq_4, exS.eq_5, exS.eq_6, exS.eq_7, exS.eq_8, exS.eq_9, exS.eq_12, exS.eq_13, exS.eq_14, exS.eq_15, exS.eq_16, exS.eq_17, exS.eq_18, exS.eq_19, exS.eq_20, exS.eq_21, exS.eq_22, evE.eq_1, evE.eq_2, evE.eq_3, evE.eq_4, evE.eq_5, evE.eq_6, evE.eq_7, evE.eq_8, evE.eq_9, evE.eq_10, evE.eq_11, evE.eq_12, evE.eq_13, evE.eq_14, evE.eq_15, evE.eq_16, evE.eq_17, evE.eq_18, evE.eq_19, evE.eq_20, evE.eq_21, evE.eq_22, evE.eq_23, evE.eq_24, evE.eq_30, evE.eq_31, evE.eq_32, evE.eq_33, evE.eq_35, evE.eq_36, evE.eq_37, evE.eq_38, evE.eq_39, evE.eq_41, evE.eq_42, evE.eq_43, evE.eq_44, evE.eq_45, evB, evJ, evTs, evI, outR, rngOf, itOf, mtTy, solid, puts, rvtOf, chsOf, slpD, isbD, newOk, setOs, C, inits, slOf, fins, finL]
end
end Vc
end
section
set_option Elab.async false
set_option linter.all false
set_option maxRecDepth 100000
namespace Vc
open PySem PySem.Spec PyProof.Rows L2 TL
section
variable {T : Nat → Option Df} {n : Nat}
section
variable {T : Nat → Option Df} {n : Nat}
end
end
end Vc
end
section
set_option Elab.async false
set_option linter.all false
set_option maxRecDepth 100000
namespace Vc
open PySem PySem.Spec PyProof.Rows L2 TL
section
variable {T : Nat → Option Df} {n : Nat}
end
end Vc
end
section
set_option Elab.async false
set_option linter.all false
set_option maxRecDepth 100000
set_option exponentiation.threshold 400
namespace Vc
open PySem PySem.Spec PyProof.Rows L2
section
variable {Φ : Ph} {ms : Nat → List Md} (hD : Draws Φ i_law_dip) (hm : ms 30 = [.m, .v])
include hD hm
end
section
variable {T : Nat → Option Df} {n : Nat}
end
end Vc
end
section
set_option Elab.async false
set_option linter.all false
set_option maxRecDepth 100000
set_option exponentiation.threshold 400
namespace Vc
open PySem PySem.Spec PyProof.Rows L2
theorem rings_turn {c : Nat → Int} {N : Nat} (h : ∀ n, 1 ≤ n → n ≤ N → 0 ≤ c n) : ∀ n, 1 ≤ n → n ≤ N → nw (rw_ c) n % n = 0 ∧ 0 ≤ nw (rw_ c) n := fun n h1 h2 => by
  rw [nw_rw h1]
  exact ⟨Int.mul_emod_right _ _, Int.mul_nonneg (by omega) (h n h1 h2)⟩
section
variable {Φ : Ph} {ms : Nat → List Md}
end
section
variable {T : Nat → Option Df} {n : Nat}
end
end Vc
end
section
set_option Elab.async false
set_option linter.all false
set_option maxRecDepth 100000
set_option exponentiation.threshold 400
namespace Vc
open PySem PySem.Spec PyProof.Rows L2
def Turn (N : Nat) (f : Nat → Int) : Prop := ∀ n, 1 ≤ n → n ≤ N → nw f n % n = 0 ∧ 0 ≤ nw f n
/-- the row of one ring of a things -/
def rr (a n : Nat) : Int := if n % a = 0 then (a : Int) else 0
section
variable {N : Nat} {f g : Nat → Int}
theorem Turn.congr (h : Turn N f) (e : ∀ n, 1 ≤ n → n ≤ N → g n = f n) : Turn N g := fun n h1 h2 => by rw [nw_congr e n h1 h2]; exact h n h1 h2
theorem Turn.mono {M : Nat} (h : Turn N f) (hm : M ≤ N) : Turn M f := fun n h1 h2 => h n h1 (by omega)
theorem Turn.add (h : Turn N f) (k : Turn N g) : Turn N fun n => f n + g n := fun n h1 h2 => by
  obtain ⟨a, b⟩ := h n h1 h2
  obtain ⟨c, d⟩ := k n h1 h2
  rw [nw_add h1]
  refine ⟨?_, by omega⟩
  rw [Int.add_emod, a, c]
  simp
theorem Turn.mul {c : Int} (hc : 0 ≤ c) (h : Turn N f) : Turn N fun n => c * f n := fun n h1 h2 => by
  obtain ⟨a, b⟩ := h n h1 h2
  rw [nw_mul h1]
  refine ⟨?_, Int.mul_nonneg hc b⟩
  rw [Int.mul_emod, a]
  simp
theorem Turn.zero (h : ∀ n, 1 ≤ n → n ≤ N → f n = 0) : Turn N f := fun n h1 h2 => by
  have e : nw f n = nw (fun k => 0 * f k) n := nw_congr (N := N) (fun k k1 k2 => by rw [h k k1 k2]; rfl) n h1 h2
  rw [e, nw_mul h1]
  simp
theorem Turn.sum {F : Nat → Nat → Int} : ∀ {M : Nat}, (∀ d, d < M → Turn N (F d)) → Turn N fun n => sg M fun d => F d n
  | 0, _ => Turn.zero fun _ _ _ => rfl
  | M + 1, h => (Turn.sum (M := M) fun d hd => h d (by omega)).add (h M (by omega))
theorem Turn.ring {a : Nat} (h : 1 ≤ a) : Turn N (rr a) := by
  have t : Turn N (rw_ fun k => if k = a then 1 else 0) := rings_turn fun n _ _ => by
    skip
    split <;> decide
  refine t.congr fun n h1 h2 => ?_
  unfold rw_ dv rr
  by_cases q : n % a = 0
  · have hle : a ≤ n := Nat.le_of_dvd h1 (Nat.dvd_of_mod_eq_zero q)
    rw [sg_one (k := a) (by omega) fun d _ hd => by
      dsimp only
      rw [if_neg hd]
      split <;> simp]
    simp [q]
  · rw [if_neg q]
    refine (sg_zero fun d _ => ?_).symm
    dsimp only
    by_cases hd : d = a
    · subst hd; rw [if_neg q]
    · rw [if_neg hd]
      split <;> simp
/-- a turn row by its rings -/
theorem Turn.exp (h : Turn N f) : ∃ c : Nat → Int, (∀ d, 1 ≤ d → d ≤ N → 0 ≤ c d) ∧ ∀ n, 1 ≤ n → n ≤ N → f n = sg (N + 1) fun d => c d * rr d n := by
  refine ⟨fun d => nw f d / d, fun d d1 d2 => Int.ediv_nonneg (h d d1 d2).2 (by omega), fun n h1 h2 => ?_⟩
  have e := rw_nw (f := f) (N := N) (fun n a b => (h n a b).1) h1 h2
  rw [← e]
  unfold rw_ dv
  have e2 : (sg (n + 1) fun d => if n % d = 0 then (d : Int) * (nw f d / d) else 0) = sg (N + 1) fun d => if n % d = 0 then (d : Int) * (nw f d / d) else 0 := (sg_more (by omega) fun d d1 _ => by rw [Nat.mod_eq_of_lt (by omega), if_neg (by omega)]).symm
  rw [e2]
  refine sg_congr fun d _ => ?_
  unfold rr
  split
  · rw [Int.mul_comm]
  · simp
/-- what rings keep, rows keep -/
theorem Turn.via {M : Nat} {k : Nat → Nat → Int} (h : Turn N f) (hk : ∀ a, 1 ≤ a → a ≤ N → Turn M (k a)) (hz : ∀ n, 1 ≤ n → n ≤ M → k 0 n = 0) (g : Nat → Int) (hg : ∀ c : Nat → Int, (∀ n, 1 ≤ n → n ≤ N → f n = sg (N + 1) fun d => c d * rr d n) → ∀ n, 1 ≤ n → n ≤ M → g n = sg (N + 1) fun d => c d * k d n) : Turn M g := by
  obtain ⟨c, c0, ce⟩ := h.exp
  refine (Turn.sum (F := fun d n => c d * k d n) (M := N + 1) fun d hd => ?_).congr (hg c ce)
  by_cases z : d = 0
  · subst z
    exact Turn.zero fun n h1 h2 => by rw [hz n h1 h2, Int.mul_zero]
  · exact (hk d (by omega) (by omega)).mul (c0 d (by omega) (by omega))
theorem rr_zero {n : Nat} (h : 1 ≤ n) : rr 0 n = 0 := by
  unfold rr
  rw [Nat.mod_zero, if_neg (by omega)]
theorem rr_step {a s n : Nat} (ha : 1 ≤ a) : rr a (s * n) = (Nat.gcd a s : Int) * rr (a / Nat.gcd a s) n := by
  have gp := Nat.gcd_pos_of_pos_left s ha
  have l : (s * n) % a = 0 ↔ n % (a / Nat.gcd a s) = 0 := by
    rw [← Nat.dvd_iff_mod_eq_zero, ← Nat.dvd_iff_mod_eq_zero]
    have co := Nat.coprime_div_gcd_div_gcd gp
    obtain ⟨a', ha'⟩ := Nat.gcd_dvd_left a s
    obtain ⟨s', hs'⟩ := Nat.gcd_dvd_right a s
    rw [Nat.div_eq_of_eq_mul_right gp ha', Nat.div_eq_of_eq_mul_right gp hs'] at co
    rw [Nat.div_eq_of_eq_mul_right gp ha']
    generalize Nat.gcd a s = t at *
    subst ha' hs'
    constructor
    · intro hd
      have : t * a' ∣ t * (n * s') := by
        have e : t * s' * n = t * (n * s') := by ac_rfl
        rwa [e] at hd
      exact co.dvd_of_dvd_mul_right (Nat.dvd_of_mul_dvd_mul_left gp this)
    · rintro ⟨m, rfl⟩
      exact ⟨s' * m, by ac_rfl⟩
  unfold rr
  by_cases q : (s * n) % a = 0
  · rw [if_pos q, if_pos (l.mp q), ← Int.natCast_mul, Nat.mul_div_cancel' (Nat.gcd_dvd_left a s)]
  · rw [if_neg q, if_neg fun z => q (l.mpr z), Int.mul_zero]
theorem Turn.step {s M : Nat} (h : Turn N f) (hs : 1 ≤ s) (hM : s * M ≤ N) : Turn M fun n => f (s * n) := by
  refine h.via (k := fun a n => rr a (s * n)) (fun a a1 a2 => ?_) (fun n h1 _ => rr_zero (Nat.mul_pos hs h1)) _ fun c hc n h1 h2 => ?_
  · exact ((Turn.ring (N := M) (a := a / Nat.gcd a s) (Nat.div_pos (Nat.le_of_dvd a1 (Nat.gcd_dvd_left a s)) (Nat.gcd_pos_of_pos_left s a1))).mul (c := (Nat.gcd a s : Int)) (by omega)).congr fun n _ _ => rr_step a1
  · exact hc (s * n) (Nat.mul_pos hs h1) (Nat.le_trans (Nat.mul_le_mul_left s h2) hM)
/-- the least t whose power a divides -/
theorem root_of {a k : Nat} (ha : 1 ≤ a) (hk : 1 ≤ k) : ∃ t, 1 ≤ t ∧ t ∣ a ∧ ∀ n, 1 ≤ n → (a ∣ n ^ k ↔ t ∣ n) := by
  have gp : ∀ m n : Nat, 1 ≤ m → Nat.gcd m n ^ k = Nat.gcd (m ^ k) (n ^ k) := fun m n hm => by
    have g0 := Nat.gcd_pos_of_pos_left n hm
    have co := Nat.coprime_div_gcd_div_gcd g0
    obtain ⟨m', hm'⟩ := Nat.gcd_dvd_left m n
    obtain ⟨n', hn'⟩ := Nat.gcd_dvd_right m n
    rw [Nat.div_eq_of_eq_mul_right g0 hm', Nat.div_eq_of_eq_mul_right g0 hn'] at co
    generalize Nat.gcd m n = t at *
    subst hm' hn'
    rw [Nat.mul_pow, Nat.mul_pow, Nat.gcd_mul_left, (co.pow k k), Nat.mul_one]
  have ex : ∃ t, 1 ≤ t ∧ a ∣ t ^ k := ⟨a, ha, Nat.dvd_trans (Nat.dvd_refl a) (by have := Nat.pow_dvd_pow a hk; rwa [Nat.pow_one] at this)⟩
  -- the least one
  obtain ⟨t, ⟨t1, t2⟩, tm⟩ : ∃ t, (1 ≤ t ∧ a ∣ t ^ k) ∧ ∀ m, 1 ≤ m → a ∣ m ^ k → t ≤ m := by
    obtain ⟨b, hb⟩ := ex
    induction b using Nat.strongRecOn with
    | _ b ih =>
      by_cases q : ∃ m, m < b ∧ 1 ≤ m ∧ a ∣ m ^ k
      · obtain ⟨m, m1, m2⟩ := q
        exact ih m m1 m2
      · exact ⟨b, hb, fun m m1 m2 => Nat.le_of_not_lt fun z => q ⟨m, z, m1, m2⟩⟩
  have key : ∀ n, 1 ≤ n → a ∣ n ^ k → t ∣ n := fun n n1 n2 => by
    have g1 := Nat.gcd_pos_of_pos_left n t1
    have hd : a ∣ Nat.gcd t n ^ k := by rw [gp t n t1]; exact Nat.dvd_gcd t2 n2
    have h1 := tm _ g1 hd
    have h2 := Nat.gcd_le_left n t1
    have e : Nat.gcd t n = t := by omega
    rw [← e]
    exact Nat.gcd_dvd_right t n
  refine ⟨t, t1, key a ha ?_, fun n n1 => ⟨key n n1, fun hd => Nat.dvd_trans t2 (Nat.pow_dvd_pow_iff (by omega) |>.mpr hd)⟩⟩
  have := Nat.pow_dvd_pow a hk
  rwa [Nat.pow_one] at this
theorem Turn.pow {k M : Nat} (h : Turn N f) (hk : 1 ≤ k) (hM : M ^ k ≤ N) : Turn M fun n => f (n ^ k) := by
  refine h.via (k := fun a n => rr a (n ^ k)) (fun a a1 a2 => ?_) (fun n h1 _ => rr_zero (Nat.pow_pos h1)) _ fun c hc n h1 h2 => ?_
  · obtain ⟨t, t1, t2, t3⟩ := root_of a1 hk
    refine ((Turn.ring (N := M) (a := t) t1).mul (c := ((a / t : Nat) : Int)) (Int.natCast_nonneg _)).congr fun n n1 _ => ?_
    unfold rr
    have l : (n ^ k) % a = 0 ↔ n % t = 0 := by
      rw [← Nat.dvd_iff_mod_eq_zero, ← Nat.dvd_iff_mod_eq_zero]
      exact t3 n n1
    by_cases q : (n ^ k) % a = 0
    · rw [if_pos q, if_pos (l.mp q), ← Int.natCast_mul, Nat.div_mul_cancel t2]
    · rw [if_neg q, if_neg fun z => q (l.mpr z), Int.mul_zero]
  · exact hc (n ^ k) (Nat.pow_pos h1) (Nat.le_trans (Nat.pow_le_pow_left h2 k) hM)
end
end Vc
end
section
set_option Elab.async false
set_option linter.all false
set_option maxRecDepth 100000
set_option exponentiation.threshold 400
namespace Vc
open PySem PySem.Spec PyProof.Rows L2
section
variable {T : Nat → Option Df} {n : Nat}
end
end Vc
end
section
set_option Elab.async false
set_option linter.all false
set_option maxRecDepth 100000
set_option exponentiation.threshold 400
namespace Vc
open PySem PySem.Spec PyProof.Rows L2
section
variable {T : Nat → Option Df} {n : Nat}
end
end Vc
end
section
set_option Elab.async false
set_option linter.all false
set_option maxRecDepth 100000
set_option exponentiation.threshold 400
namespace Vc
open PySem PySem.Spec PyProof.Rows L2
structure Chg (c : List Nat) : Prop where
  l1 : 1 ≤ c.length
  l2 : c.length ≤ 7
  le : ∀ x ∈ c, x ≤ 1000000
  ne : ∃ x ∈ c, x ≠ 0
/-- as far as it goes -/
structure Ct (p : Nat → Nat) (N K : Nat) : Prop where
  le : K ≤ N
  ok : ∀ m, 1 ≤ m → m ≤ K → p m ≤ N
  no : K < N → N < p (K + 1)
theorem Ct.ex (p : Nat → Nat) (N : Nat) : ∃ K, Ct p N K := by
  have : ∀ j, j ≤ N → (∃ K, Ct p N K) ∨ ∀ m, 1 ≤ m → m ≤ j → p m ≤ N := fun j => by
    induction j with
    | zero => intro _; exact .inr fun m h1 h2 => by omega
    | succ j ih =>
      intro hj
      rcases ih (by omega) with h | h
      · exact .inl h
      · by_cases q : p (j + 1) ≤ N
        · exact .inr fun m h1 h2 => by
            by_cases z : m = j + 1
            · subst z; exact q
            · exact h m h1 (by omega)
        · exact .inl ⟨j, by omega, h, fun _ => by omega⟩
  rcases this N (Nat.le_refl N) with h | h
  · exact h
  · exact ⟨N, Nat.le_refl N, h, fun z => by omega⟩
section
variable {T : Nat → Option Df} {n : Nat}
end
end Vc
end
section
set_option Elab.async false
set_option linter.all false
set_option maxRecDepth 100000
set_option exponentiation.threshold 400
namespace Vc
open PySem PySem.Spec PyProof.Rows L2
section
variable {T : Nat → Option Df} {n : Nat}
end
end Vc
end
section
set_option Elab.async false
set_option linter.all false
set_option maxRecDepth 100000
set_option exponentiation.threshold 400
namespace Vc
open PySem PySem.Spec PyProof.Rows L2
inductive Kd where
  | pw | rg | pl
  deriving DecidableEq
def kdS : Kd → Str
  | .pw => Str.ofString "power"
  | .rg => Str.ofString "ring"
  | .pl => Str.ofString "places"
abbrev Tm := Kd × Int × Int
def tmD (t : Tm) : D := .tuple [.str (kdS t.1), .int t.2.1, .int t.2.2]
def lo_ : Kd → Int
  | .pw => -40
  | .rg => 1
  | .pl => 1
def hi_ : Kd → Int
  | .pw => 40
  | .rg => 300
  | .pl => 6
def okT (t : Tm) : Prop := (-1000000 ≤ t.2.1 ∧ t.2.1 ≤ 1000000) ∧ lo_ t.1 ≤ t.2.2 ∧ t.2.2 ≤ hi_ t.1
instance (t : Tm) : Decidable (okT t) := by unfold okT; infer_instance
def ml (r : List Tm) : List D := r.map tmD
@[simp] theorem ml_len {r : List Tm} : (ml r).length = r.length := List.length_map _
section
variable {T : Nat → Option Df} {n : Nat}
end
end Vc
end
section
set_option Elab.async false
set_option linter.all false
set_option maxRecDepth 100000
set_option exponentiation.threshold 400
namespace Vc
open PySem PySem.Spec PyProof.Rows L2 TL
section
variable {T : Nat → Option Df} {n : Nat}
end
end Vc
end
section
set_option Elab.async false
set_option linter.all false
set_option maxRecDepth 100000
set_option exponentiation.threshold 1000
namespace Vc
open PySem PySem.Spec PyProof.Rows L2
/-- new numbers of at most m bits -/
def GB (m : Nat) (g : Nat → Int) (N : Nat) : Prop := ∀ k, 1 ≤ k → k ≤ N → Bd m (g k)
theorem GB.up {m : Nat} {g : Nat → Int} {N : Nat} {y : Int} (h : GB m g N) (hy : Bd m y) : GB m (up g N y) (N + 1) := fun k h1 h2 => by
  by_cases e : k = N + 1
  · subst e; rw [lvup_hi]; exact hy
  · rw [lvup_lo (by omega)]; exact h k h1 (by omega)
theorem GB.dn {m : Nat} {g : Nat → Int} {N : Nat} (h : GB m g (N + 1)) : GB m g N := fun k h1 h2 => h k h1 (by omega)
theorem bd_sg {m n : Nat} {F : Nat → Int} (hn : n ≤ 1000) (h : ∀ d, d < n → Bd m (F d)) : Bd (m + 10) (sg n F) := by
  have := sg_bd (F := F) (M := ((2 ^ m : Nat) : Int)) (n := n) fun d hd => by
    have := h d hd
    unfold Bd at this
    omega
  have e : (n : Int) * ((2 ^ m : Nat) : Int) ≤ 1000 * ((2 ^ m : Nat) : Int) := Int.mul_le_mul_of_nonneg_right (by omega) (Int.natCast_nonneg _)
  unfold Bd
  have e2 : 2 ^ (m + 10) = 2 ^ m * 1024 := by rw [Nat.pow_add]
  have p : 0 < 2 ^ m := Nat.pos_of_ne_zero (by simp)
  rw [e2]
  generalize (2 ^ m : Nat) = P at *
  generalize (n : Int) * (P : Int) = Q at *
  omega
theorem bd0 {m : Nat} : Bd m 0 := by
  unfold Bd
  have p : 0 < 2 ^ m := Nat.pos_of_ne_zero (by simp)
  simpa using p
theorem GB.ls {m N : Nat} {g : Nat → Int} (h : GB m g N) (hN : N ≤ 900) : Bd (m + 10) (ls g N) := by
  refine bd_sg (by omega) fun d hd => ?_
  split
  · exact h _ (by omega) (by omega)
  · exact bd0
theorem GB.dv {m N k : Nat} {g : Nat → Int} (h : GB m g N) (hN : N ≤ 900) (h1 : 1 ≤ k) (h2 : k ≤ N) : Bd (m + 10) (dv k g) := by
  refine bd_sg (by omega) fun d hd => ?_
  split
  · rename_i hz
    refine h _ (Nat.pos_of_ne_zero fun z => ?_) (by omega)
    subst z
    simp at hz
    omega
  · exact bd0
section
variable {T : Nat → Option Df} {n : Nat}
end
end Vc
end
section
set_option Elab.async false
set_option linter.all false
set_option maxRecDepth 100000
set_option exponentiation.threshold 1000
namespace Vc
open PySem PySem.Spec PyProof.Rows L2
theorem GB.mono {m k : Nat} {g : Nat → Int} {N : Nat} (h : GB m g N) (hk : m ≤ k) : GB k g N := fun j h1 h2 => (h j h1 h2).mono hk
section
variable {T : Nat → Option Df} {n : Nat}
theorem wellO_run (h : H_law_well T) {ns : List Int} {k : Int} (h0 : 0 ≤ k) (hk : k < 100) : ∃ ds, run T (msOf T) (n + 1) i_law_well [.f (il ns), .v (.int k)] = .rt (.o ds) [.no, .no] ∧ Wl 0 ds := by
  rw [h.go]
  exact well_run h0 hk
end
end Vc
end
section
set_option Elab.async false
set_option linter.all false
set_option maxRecDepth 100000
set_option exponentiation.threshold 1000
namespace Vc
open PySem PySem.Spec PyProof.Rows L2
section
variable {T : Nat → Option Df} {n : Nat}
end
end Vc
end
section
set_option Elab.async false
set_option linter.all false
set_option maxRecDepth 100000
set_option exponentiation.threshold 1000
namespace Vc
open PySem PySem.Spec PyProof.Rows L2
section
variable {T : Nat → Option Df} {n : Nat}
end
end Vc
end
section
set_option Elab.async false
set_option linter.all false
set_option maxRecDepth 100000
set_option exponentiation.threshold 1000
namespace Vc
open PySem PySem.Spec PyProof.Rows L2
theorem ix5 {xs : List D} {k : Nat} {d : D} (h : xs[k]? = some d) : ixD (.list xs) (.int k) = some (.v d) := by
  have hk : k < xs.length := (List.getElem?_eq_some_iff.mp h).1
  rw [ixD_l, ixOf_in (by omega) (by omega)]
  simp [h]
section
variable {T : Nat → Option Df} {n : Nat} {A B A' B' : List D} {d : D} {x : Xn}
variable {w : D}
end
end Vc
end
section
set_option Elab.async false
set_option linter.all false
set_option maxRecDepth 100000
set_option exponentiation.threshold 1000
namespace Vc
open PySem PySem.Spec PyProof.Rows L2
def NG (g : Nat → Int) (N : Nat) : Prop := ∀ k, 1 ≤ k → k ≤ N → 0 ≤ g k
theorem NG.up {g : Nat → Int} {N : Nat} {y : Int} (h : NG g N) (hy : 0 ≤ y) : NG (up g N y) (N + 1) := fun k h1 h2 => by
  by_cases e : k = N + 1
  · subst e; rw [lvup_hi]; exact hy
  · rw [lvup_lo (by omega)]; exact h k h1 (by omega)
theorem NG.ls {g : Nat → Int} {N : Nat} (h : NG g N) : 0 ≤ ls g N := sg_nn fun d hd => by
  split
  · exact h _ (by omega) (by omega)
  · exact Int.le_refl 0
section
variable {T : Nat → Option Df} {n : Nat}
end
end Vc
end
section
set_option Elab.async false
set_option linter.all false
set_option maxRecDepth 100000
set_option exponentiation.threshold 1000
namespace Vc
open PySem PySem.Spec PyProof.Rows L2
theorem ix_last71 {X : List D} {d : D} : ixD (.list (X ++ [d])) (.int (-1)) = some (.v d) := by
  have h : ixOf (X ++ [d]).length (-1) = some X.length := by
    have e : ((X ++ [d]).length : Int) = X.length + 1 := by simp
    unfold ixOf
    simp only [e]
    have a : ((-1 : Int) < 0) := by decide
    rw [if_pos a]
    have b : 0 ≤ (-1 : Int) + ((X.length : Int) + 1) ∧ (-1 : Int) + ((X.length : Int) + 1) < X.length + 1 := by omega
    have c : ((-1 : Int) + ((X.length : Int) + 1)).toNat = X.length := by omega
    simp only [b, c]
    simp
  rw [ixD_l, h]
  simp
theorem GB.at {m k : Nat} {g : Nat → Int} {N : Nat} (h : GB m g N) (hk : k ≤ N) : GB m g k := fun j h1 h2 => h j h1 (by omega)
section
variable {T : Nat → Option Df} {n : Nat}
end
end Vc
end
section
set_option Elab.async false
set_option linter.all false
set_option maxRecDepth 100000
set_option exponentiation.threshold 400
namespace Vc
open PySem PySem.Spec PyProof.Rows L2 TL
section
variable {T : Nat → Option Df} {n : Nat}
end
section
variable {T : Nat → Option Df} {n : Nat}
end
end Vc
end
section
set_option Elab.async false
set_option linter.all false
set_option maxRecDepth 100000
set_option exponentiation.threshold 400
namespace Vc
open PySem PySem.Spec PyProof.Rows L2 TL
abbrev Pt := Kd × Option Int × Option Int
section
variable {T : Nat → Option Df} {n : Nat}
end
end Vc
end
section
set_option Elab.async false
set_option linter.all false
set_option maxRecDepth 100000
set_option exponentiation.threshold 400
namespace Vc
open PySem PySem.Spec PyProof.Rows L2 TL
section
variable {T : Nat → Option Df} {n : Nat}
end
end Vc
end
section
set_option Elab.async false
set_option linter.all false
set_option maxRecDepth 100000
set_option exponentiation.threshold 400
namespace Vc
open PySem PySem.Spec PyProof.Rows L2 TL
section
variable {T : Nat → Option Df} {n : Nat}
end
end Vc
end
section
set_option Elab.async false
set_option linter.all false
set_option maxRecDepth 100000
set_option exponentiation.threshold 400
namespace Vc
open PySem PySem.Spec PyProof.Rows L2
section
variable {T : Nat → Option Df} {n : Nat}
end
end Vc
end
section
set_option Elab.async false
set_option linter.all false
set_option maxRecDepth 100000
set_option exponentiation.threshold 400
namespace Vc
open PySem PySem.Spec PyProof.Rows L2
section
variable {T : Nat → Option Df} {n : Nat}
end
end Vc
end
section
set_option Elab.async false
set_option linter.all false
set_option maxRecDepth 100000
set_option exponentiation.threshold 400
namespace Vc
open PySem PySem.Spec PyProof.Rows L2
section
variable {T : Nat → Option Df} {n : Nat}
end
end Vc
end
section
set_option Elab.async false
set_option linter.all false
set_option maxRecDepth 100000
set_option exponentiation.threshold 400
namespace Vc
open PySem PySem.Spec PyProof.Rows L2
section
variable {T : Nat → Option Df} {n : Nat}
end
end Vc
namespace Vc
open PySem PySem.Spec PyProof.Rows L2
/-- a for over a list of one's own -/
theorem ev_for_own {Φ : Ph} {ms : Nat → List Md} {s : Src} {i j : Nat} {b : Sms} {e e1 : En} {ds : List D} (I : Nat → En → Prop) (hs : evI Φ ms s e = .ok ds (some j) e1) (h0 : I 0 (e1.set j .no))
    (st : ∀ (k : Nat) (x : D) (e : En), ds[k]? = some x → I k e → ∃ e2, (exSs Φ ms b (e.set i (.v x)) = .nx e2 ∨ exSs Φ ms b (e.set i (.v x)) = .ct e2) ∧ I (k + 1) e2) :
    ∃ e', exS Φ ms (.for s (.n i) b) e = .nx (e'.set j (e1[j]?.getD .no)) ∧ I ds.length e' := by
  obtain ⟨e', h1, h2⟩ := for_inv (tg := .n i) (f := fun e => exSs Φ ms b e) I ds 0 (e1.set j .no) h0 fun k d e hd hi => by
    rw [Nat.zero_add] at *
    obtain ⟨e2, h3⟩ := st k d e hd hi
    exact ⟨_, rfl, e2, h3⟩
  refine ⟨e', ?_, by simpa using h2⟩
  rw [exS, hs]
  show unlockO e1 [j] (forGo (.n i) _ ds (wipeE e1 [j])) = _
  show unlockO e1 [j] (forGo (.n i) _ ds (e1.set j .no)) = _
  rw [h1]
  rfl
end Vc
namespace Vc
open PySem PySem.Spec PyProof.Rows L2
section
variable {T : Nat → Option Df} {n : Nat}
end
end Vc
namespace Vc
open PySem PySem.Spec PyProof.Rows L2
section
variable {T : Nat → Option Df} {n : Nat}
end
end Vc
end
section
set_option Elab.async false
set_option linter.all false
set_option maxRecDepth 100000
set_option exponentiation.threshold 1000
namespace Vc
open PySem PySem.Spec PyProof.Rows L2
theorem nws_up {g : Nat → Int} {N j : Nat} {y : Int} (h : j ≤ N) : nws (up g N y) j = nws g j := by
  simp only [nws]
  rw [tl_congr fun n h1 h2 => lvup_lo (by omega)]
theorem nbs_up {g : Nat → Int} {N j : Nat} {y : Int} (h : j ≤ N) : nbs (up g N y) j = nbs g j := by
  simp only [nbs, rwl]
  rw [tl_congr fun n h1 h2 => dv_congr h1 fun d d1 d2 _ => lvup_lo (by omega)]
/-- what is seen of a live row -/
def lk (g : Nat → Int) (N : Nat) : D := .tuple [.list (nbs g N), .list (il (rgs N g)), .tuple [.int (ls g N), .int ((N : Int) + 1)], .int (tl N g).sum, .int N]
theorem lk_up {g : Nat → Int} {N j : Nat} {y : Int} (h : j ≤ N) : lk (up g N y) j = lk g j := by
  have e1 : tl j (up g N y) = tl j g := tl_congr fun n h1 h2 => lvup_lo (by omega)
  have e2 : rgs j (up g N y) = rgs j g := by
    unfold rgs
    exact tl_congr fun n h1 h2 => by rw [lvup_lo (by omega)]
  unfold lk
  rw [nbs_up h, e1, e2, ls_congr fun n h1 h2 => lvup_lo (by omega)]
theorem lk_eq {a b : List Int} {l z s k : Int} : eqD (.tuple [.list (il a), .list (il b), .tuple [.int l, .int z], .int s, .int k]) (.tuple [.list (il a), .list (il b), .tuple [.int l, .int z], .int s, .int k]) = some true := by
  have ok : okD (.tuple [.list (il a), .list (il b), .tuple [.int l, .int z], .int s, .int k]) = true := by
    show (PyData.canLayAll0 [.list (il a), .list (il b), .tuple [.int l, .int z], .int s, .int k] && decide (PyData.depthAll [.list (il a), .list (il b), .tuple [.int l, .int z], .int s, .int k] + 1 ≤ 64)) = true
    simp [PyData.canLayAll0, PyData.canLay0, PyData.depthAll, PyData.depth, il_lay, il_dep]
  show (if (okD _ && okD _) = true then some (PyData.eqv _ _) else _) = _
  rw [ok]
  simp [PyData.eqv, PyData.eqvAll, eqv_il]
theorem lk_eq' {g : Nat → Int} {N : Nat} : eqD (lk g N) (lk g N) = some true := lk_eq
/-- all that was seen -/
def lks (g : Nat → Int) (N : Nat) : List D := (List.range (N + 1)).map (lk g)
@[simp] theorem lks_len {g : Nat → Int} {N : Nat} : (lks g N).length = N + 1 := by simp [lks]
theorem lks_succ {g : Nat → Int} {N : Nat} : lks g (N + 1) = lks g N ++ [lk g (N + 1)] := by simp [lks, List.range_succ (n := N + 1)]
theorem lks_up {g : Nat → Int} {N : Nat} {y : Int} : lks (up g N y) (N + 1) = lks g N ++ [lk (up g N y) (N + 1)] := by
  rw [lks_succ]
  congr 1
  unfold lks
  exact List.map_congr_left fun k hk => lk_up (by have := List.mem_range.mp hk; omega)
theorem lks_at {g : Nat → Int} {N k : Nat} (h : k ≤ N) : ixD (.list (lks g N)) (.int (k : Int)) = some (.v (lk g k)) := ix5 (by simp [lks, show k < N + 1 by omega])
theorem lks_last {g : Nat → Int} {N : Nat} : ixD (.list (lks g N)) (.int (-1)) = some (.v (lk g N)) := by
  cases N with
  | zero => exact ix_last71 (X := [])
  | succ N => rw [lks_succ]; exact ix_last71
section
variable {T : Nat → Option Df} {n : Nat}
theorem look_run (h : H_law_look T) {g : Nat → Int} {N : Nat} (hN : N ≤ 900) : run T (msOf T) (n + 3) i_law_look [.q, .m (nbs g N), .m (nws g N)] = .rt (.v (lk g N)) [.no, .o (nbs g N), .o (nws g N)] := by
  have R1 := lvrow_run (n := n + 1) h.Live_row (A := nbs g N) (B := nws g N)
  have R3 := coming_run (n := n) h.Live_coming (g := g) (N := N) hN
  have R5 := rings_lv (n := n + 1) h.Live_rings (A := nbs g N) (g := g) (N := N) (by omega)
  have R6 := lvlen_run (n := n + 1) h.Live___len__ (A := nbs g N) (B := nws g N)
  have R7 := things_run (n := n + 1) h.Live_things (A := nbs g N) (l := tl N g)
  have l1 : (nbs g N).length = N := by simp
  have cd1 : cd (0 ≤ (N : Int) ∧ (N : Int) < 2 ^ 63) = true := cd_iff.mpr (by omega)
  simp at cd1
  rw [l1] at R6
  rw [h.go]
  simp only [nws, nbs, lk] at *
  generalize il (rwl N g) = A at *
  generalize il (tl N g) = B at *
  generalize il (rgs N g) = G at *
  generalize ls g N = Lg at *
  simp [runDf, d_law_look, b_law_look, List.replicate]
  simp [exS.eq_1, exS.eq_2, exS.eq_3, exS.eq_4, exS.eq_5, exS.eq_6, exS.eq_7, exS.eq_8, exS.eq_9, exS.eq_12, exS.eq_13, exS.eq_14, exS.eq_15, exS.eq_16, exS.eq_17, exS.eq_18, exS.eq_19, exS.eq_20, exS.eq_21, exS.eq_22, evE.eq_1, evE.eq_2, evE.eq_3, evE.eq_4, evE.eq_5, evE.eq_6, evE.eq_7, evE.eq_8, evE.eq_9, evE.eq_10, evE.eq_11, evE.eq_12, evE.eq_13, evE.eq_14, evE.eq_15, evE.eq_16, evE.eq_17, evE.eq_18, evE.eq_19, evE.eq_20, evE.eq_21, evE.eq_22, evE.eq_23, evE.eq_24, evE.eq_30, evE.eq_31, evE.eq_32, evE.eq_33, evE.eq_35, evE.eq_36, evE.eq_37, evE.eq_38, evE.eq_39, evE.eq_41, evE.eq_42, evE.eq_43, evE.eq_44, evE.eq_45, evB, evJ, evTs, evI, outR, rngOf, itOf, mtTy, solid, puts, rvtOf, chsOf, slpD, isbD, newOk, setOs, evE.eq_25, evE.eq_26, evE.eq_28, evE.eq_29, evE.eq_40, evE.eq_46, allO, qArgs, qFin, callB, callV, prep, avs, lent, finOk, putB, backR, permd, cvR, flatC, atomD, h.Live_row.ms, h.Live_coming.ms, h.Live_rings.ms, h.Live___len__.ms, h.Live_things.ms, R1, R3, R5, R6, R7, l1, cd1, inits, slOf, fins, finL]
variable {A B A' B' : List D} {d : D} {x : Xn}
theorem done_tell (h : H_law_done T) (P : run T (msOf T) (n + 3) i_Live_tell [.q, .v d, .m A, .m B] = .rt (.v .none) [.no, .no, .o A', .o B']) : run T (msOf T) (n + 4) i_law_done [.q, .v (.int 0), .v d, .m A, .m B] = .rt (.v (.bool true)) [.no, .no, .no, .o A', .o B'] := by
  rw [h.go]
  simp [runDf, d_law_done, b_law_done, List.replicate]
  simp [exS.eq_1, exS.eq_2, exS.eq_3, exS.eq_4, exS.eq_5, exS.eq_6, exS.eq_7, exS.eq_8, exS.eq_9, exS.eq_12, exS.eq_13, exS.eq_14, exS.eq_15, exS.eq_16, exS.eq_17, exS.eq_18, exS.eq_19, exS.eq_20, exS.eq_21, exS.eq_22, evE.eq_1, evE.eq_2, evE.eq_3, evE.eq_4, evE.eq_5, evE.eq_6, evE.eq_7, evE.eq_8, evE.eq_9, evE.eq_10, evE.eq_11, evE.eq_12, evE.eq_13, evE.eq_14, evE.eq_15, evE.eq_16, evE.eq_17, evE.eq_18, evE.eq_19, evE.eq_20, evE.eq_21, evE.eq_22, evE.eq_23, evE.eq_24, evE.eq_30, evE.eq_31, evE.eq_32, evE.eq_33, evE.eq_35, evE.eq_36, evE.eq_37, evE.eq_38, evE.eq_39, evE.eq_41, evE.eq_42, evE.eq_43, evE.eq_44, evE.eq_45, evB, evJ, evTs, evI, outR, rngOf, itOf, mtTy, solid, puts, rvtOf, chsOf, slpD, isbD, newOk, setOs, evE.eq_25, evE.eq_26, evE.eq_28, evE.eq_29, evE.eq_40, evE.eq_46, allO, qArgs, qFin, callB, callV, prep, avs, lent, finOk, putB, backR, permd, cvR, flatC, atomD, h.Live_tell.ms, P, inits, slOf, fins, finL]
theorem done_lay (h : H_law_done T) (P : run T (msOf T) (n + 3) i_Live_lay [.q, .v d, .m A, .m B] = .rt (.v .none) [.no, .no, .o A', .o B']) : run T (msOf T) (n + 4) i_law_done [.q, .v (.int 1), .v d, .m A, .m B] = .rt (.v (.bool true)) [.no, .no, .no, .o A', .o B'] := by
  rw [h.go]
  simp [runDf, d_law_done, b_law_done, List.replicate]
  simp [exS.eq_1, exS.eq_2, exS.eq_3, exS.eq_4, exS.eq_5, exS.eq_6, exS.eq_7, exS.eq_8, exS.eq_9, exS.eq_12, exS.eq_13, exS.eq_14, exS.eq_15, exS.eq_16, exS.eq_17, exS.eq_18, exS.eq_19, exS.eq_20, exS.eq_21, exS.eq_22, evE.eq_1, evE.eq_2, evE.eq_3, evE.eq_4, evE.eq_5, evE.eq_6, evE.eq_7, evE.eq_8, evE.eq_9, evE.eq_10, evE.eq_11, evE.eq_12, evE.eq_13, evE.eq_14, evE.eq_15, evE.eq_16, evE.eq_17, evE.eq_18, evE.eq_19, evE.eq_20, evE.eq_21, evE.eq_22, evE.eq_23, evE.eq_24, evE.eq_30, evE.eq_31, evE.eq_32, evE.eq_33, evE.eq_35, evE.eq_36, evE.eq_37, evE.eq_38, evE.eq_39, evE.eq_41, evE.eq_42, evE.eq_43, evE.eq_44, evE.eq_45, evB, evJ, evTs, evI, outR, rngOf, itOf, mtTy, solid, puts, rvtOf, chsOf, slpD, isbD, newOk, setOs, evE.eq_25, evE.eq_26, evE.eq_28, evE.eq_29, evE.eq_40, evE.eq_46, allO, qArgs, qFin, callB, callV, prep, avs, lent, finOk, putB, backR, permd, cvR, flatC, atomD, h.Live_lay.ms, P, inits, slOf, fins, finL]
theorem done_tell_x (h : H_law_done T) (P : run T (msOf T) (n + 3) i_Live_tell [.q, .v d, .m A, .m B] = .ex x [.no, .no, .o A', .o B']) : run T (msOf T) (n + 4) i_law_done [.q, .v (.int 0), .v d, .m A, .m B] = .rt (.v (.bool false)) [.no, .no, .no, .o A', .o B'] := by
  rw [h.go]
  simp [runDf, d_law_done, b_law_done, List.replicate]
  simp [exS.eq_1, exS.eq_2, exS.eq_3, exS.eq_4, exS.eq_5, exS.eq_6, exS.eq_7, exS.eq_8, exS.eq_9, exS.eq_12, exS.eq_13, exS.eq_14, exS.eq_15, exS.eq_16, exS.eq_17, exS.eq_18, exS.eq_19, exS.eq_20, exS.eq_21, exS.eq_22, evE.eq_1, evE.eq_2, evE.eq_3, evE.eq_4, evE.eq_5, evE.eq_6, evE.eq_7, evE.eq_8, evE.eq_9, evE.eq_10, evE.eq_11, evE.eq_12, evE.eq_13, evE.eq_14, evE.eq_15, evE.eq_16, evE.eq_17, evE.eq_18, evE.eq_19, evE.eq_20, evE.eq_21, evE.eq_22, evE.eq_23, evE.eq_24, evE.eq_30, evE.eq_31, evE.eq_32, evE.eq_33, evE.eq_35, evE.eq_36, evE.eq_37, evE.eq_38, evE.eq_39, evE.eq_41, evE.eq_42, evE.eq_43, evE.eq_44, evE.eq_45, evB, evJ, evTs, evI, outR, rngOf, itOf, mtTy, solid, puts, rvtOf, chsOf, slpD, isbD, newOk, setOs, evE.eq_25, evE.eq_26, evE.eq_28, evE.eq_29, evE.eq_40, evE.eq_46, allO, qArgs, qFin, callB, callV, prep, avs, lent, finOk, putB, backR, permd, cvR, flatC, atomD, exS, h.Live_tell.ms, P, hdGo, subX, okN, offN, isMe, evH, inits, slOf, fins, finL]
theorem done_lay_x (h : H_law_done T) (P : run T (msOf T) (n + 3) i_Live_lay [.q, .v d, .m A, .m B] = .ex x [.no, .no, .o A', .o B']) : run T (msOf T) (n + 4) i_law_done [.q, .v (.int 1), .v d, .m A, .m B] = .rt (.v (.bool false)) [.no, .no, .no, .o A', .o B'] := by
  rw [h.go]
  simp [runDf, d_law_done, b_law_done, List.replicate]
  simp [exS.eq_1, exS.eq_2, exS.eq_3, exS.eq_4, exS.eq_5, exS.eq_6, exS.eq_7, exS.eq_8, exS.eq_9, exS.eq_12, exS.eq_13, exS.eq_14, exS.eq_15, exS.eq_16, exS.eq_17, exS.eq_18, exS.eq_19, exS.eq_20, exS.eq_21, exS.eq_22, evE.eq_1, evE.eq_2, evE.eq_3, evE.eq_4, evE.eq_5, evE.eq_6, evE.eq_7, evE.eq_8, evE.eq_9, evE.eq_10, evE.eq_11, evE.eq_12, evE.eq_13, evE.eq_14, evE.eq_15, evE.eq_16, evE.eq_17, evE.eq_18, evE.eq_19, evE.eq_20, evE.eq_21, evE.eq_22, evE.eq_23, evE.eq_24, evE.eq_30, evE.eq_31, evE.eq_32, evE.eq_33, evE.eq_35, evE.eq_36, evE.eq_37, evE.eq_38, evE.eq_39, evE.eq_41, evE.eq_42, evE.eq_43, evE.eq_44, evE.eq_45, evB, evJ, evTs, evI, outR, rngOf, itOf, mtTy, solid, puts, rvtOf, chsOf, slpD, isbD, newOk, setOs, evE.eq_25, evE.eq_26, evE.eq_28, evE.eq_29, evE.eq_40, evE.eq_46, allO, qArgs, qFin, callB, callV, prep, avs, lent, finOk, putB, backR, permd, cvR, flatC, atomD, exS, h.Live_lay.ms, P, hdGo, subX, okN, offN, isMe, evH, inits, slOf, fins, finL]
/-- what a drawn call does -/
theorem drawn_run (h : H_law_drawn_call T) (hd : H_law_done T) {ds : List D} {W N m : Nat} {g : Nat → Int} (hw : Wl W ds) (hB : W + 10 < 2 ^ 60) (hN : N ≤ 300) (hG : GB m g N) (hm : 100 ≤ m) : ∃ ds' w v, run T (msOf T) (n + 4) i_law_drawn_call [.m ds, .q, .m (nbs g N), .m (nws g N)] = .rt (.v (.tuple [.int w, .int v])) [.o ds', .no, .o (nbs g N), .o (nws g N)] ∧ Wl (W + 3) ds' ∧
    ((∃ y, Bd 100 y ∧ run T (msOf T) (n + 4) i_law_done [.q, .v (.int w), .v (.int v), .m (nbs g N), .m (nws g N)] = .rt (.v (.bool true)) [.no, .no, .no, .o (nbs (up g N y) (N + 1)), .o (nws (up g N y) (N + 1))]) ∨
     run T (msOf T) (n + 4) i_law_done [.q, .v (.int w), .v (.int v), .m (nbs g N), .m (nws g N)] = .rt (.v (.bool false)) [.no, .no, .no, .o (nbs g N), .o (nws g N)]) := by
  have Dw := draws (n := n + 2) h.law_draw.h
  obtain ⟨a, d1, E1, a0, a1, w1⟩ := Dw W ds 2 hw (by omega) (by decide) (.of' (by decide) (by decide))
  by_cases ha : a = 0
  · subst ha
    obtain ⟨b, d2, E2, b0, b1, w2⟩ := Dw (W + 1) d1 5 w1 (by omega) (by decide) (.of' (by decide) (by decide))
    obtain ⟨c, d3, E3, c0, c1, w3⟩ := Dw (W + 2) d2 8 w2 (by omega) (by decide) (.of' (by decide) (by decide))
    refine ⟨d3, 1, b - (if c = 0 then 1 else 0), ?_, w3, ?_⟩
    · rw [h.go]
      generalize nws g N = X at *
      generalize nbs g N = Y at *
      simp [runDf, d_law_drawn_call, b_law_drawn_call, List.replicate]
      by_cases hc : c = 0
      · subst hc
        simp [exS.eq_1, exS.eq_2, exS.eq_3, exS.eq_4, exS.eq_5, exS.eq_6, exS.eq_7, exS.eq_8, exS.eq_9, exS.eq_12, exS.eq_13, exS.eq_14, exS.eq_15, exS.eq_16, exS.eq_17, exS.eq_18, exS.eq_19, exS.eq_20, exS.eq_21, exS.eq_22, evE.eq_1, evE.eq_2, evE.eq_3, evE.eq_4, evE.eq_5, evE.eq_6, evE.eq_7, evE.eq_8, evE.eq_9, evE.eq_10, evE.eq_11, evE.eq_12, evE.eq_13, evE.eq_14, evE.eq_15, evE.eq_16, evE.eq_17, evE.eq_18, evE.eq_19, evE.eq_20, evE.eq_21, evE.eq_22, evE.eq_23, evE.eq_24, evE.eq_30, evE.eq_31, evE.eq_32, evE.eq_33, evE.eq_35, evE.eq_36, evE.eq_37, evE.eq_38, evE.eq_39, evE.eq_41, evE.eq_42, evE.eq_43, evE.eq_44, evE.eq_45, evB, evJ, evTs, evI, outR, rngOf, itOf, mtTy, solid, puts, rvtOf, chsOf, slpD, isbD, newOk, setOs, evE.eq_25, evE.eq_26, evE.eq_28, evE.eq_29, evE.eq_40, evE.eq_46, allO, qArgs, qFin, callB, callV, prep, avs, lent, finOk, putB, backR, permd, cvR, flatC, atomD, h.law_draw.ms, E1, E2, E3, inits, slOf, fins, finL]
      · simp [exS.eq_1, exS.eq_2, exS.eq_3, exS.eq_4, exS.eq_5, exS.eq_6, exS.eq_7, exS.eq_8, exS.eq_9, exS.eq_12, exS.eq_13, exS.eq_14, exS.eq_15, exS.eq_16, exS.eq_17, exS.eq_18, exS.eq_19, exS.eq_20, exS.eq_21, exS.eq_22, evE.eq_1, evE.eq_2, evE.eq_3, evE.eq_4, evE.eq_5, evE.eq_6, evE.eq_7, evE.eq_8, evE.eq_9, evE.eq_10, evE.eq_11, evE.eq_12, evE.eq_13, evE.eq_14, evE.eq_15, evE.eq_16, evE.eq_17, evE.eq_18, evE.eq_19, evE.eq_20, evE.eq_21, evE.eq_22, evE.eq_23, evE.eq_24, evE.eq_30, evE.eq_31, evE.eq_32, evE.eq_33, evE.eq_35, evE.eq_36, evE.eq_37, evE.eq_38, evE.eq_39, evE.eq_41, evE.eq_42, evE.eq_43, evE.eq_44, evE.eq_45, evB, evJ, evTs, evI, outR, rngOf, itOf, mtTy, solid, puts, rvtOf, chsOf, slpD, isbD, newOk, setOs, evE.eq_25, evE.eq_26, evE.eq_28, evE.eq_29, evE.eq_40, evE.eq_46, allO, qArgs, qFin, callB, callV, prep, avs, lent, finOk, putB, backR, permd, cvR, flatC, atomD, h.law_draw.ms, E1, E2, E3, hc, inits, slOf, fins, finL]
    · obtain ⟨v, hv⟩ : ∃ v, v = b - (if c = 0 then 1 else 0) := ⟨_, rfl⟩
      have v1 : -1 ≤ v ∧ v < 5 := by rw [hv]; split <;> omega
      rw [← hv]
      by_cases v0 : 0 ≤ v
      · left
        refine ⟨v * ((N : Int) + 1), (Bd.mul (m := 20) (n := 20) (.of' v0 (by omega)) (.of' (by omega) (by omega))).mono (by omega), done_lay hd (lay_ok hd.Live_lay (by omega) v0 (Bd.mono (m := 20) (.of' v0 (by omega)) (by decide)))⟩
      · right
        exact done_lay_x hd (lay_no hd.Live_lay (decide_eq_false v0))
  · obtain ⟨b, d2, E2, b0, b1, w2⟩ := Dw (W + 1) d1 4 w1 (by omega) (by decide) (.of' (by decide) (by decide))
    obtain ⟨c, d3, E3, c0, c1, w3⟩ := Dw (W + 2) d2 4 w2 (by omega) (by decide) (.of' (by decide) (by decide))
    have R3 := coming_run (n := n + 1) h.Live_coming (g := g) (N := N) (by omega)
    have mc : mulOk ((N : Int) + 1) b = true := mulOk_of (m := 20) (n := 20) (.of' (by omega) (by omega)) (.of' b0 (by omega)) (by decide)
    have I0 : ∀ a b : D, ixD (.tuple [a, b]) (.int 0) = some (.v a) := fun _ _ => rfl
    have I1 : ∀ a b : D, ixD (.tuple [a, b]) (.int 1) = some (.v b) := fun _ _ => rfl
    refine ⟨d3, 0, ls g N + ((N : Int) + 1) * b + (if c = 0 then 1 else 0), ?_, w3, ?_⟩
    · rw [h.go]
      generalize nws g N = X at *
      generalize nbs g N = Y at *
      simp [runDf, d_law_drawn_call, b_law_drawn_call, List.replicate]
      by_cases hc : c = 0
      · subst hc
        simp [exS.eq_1, exS.eq_2, exS.eq_3, exS.eq_4, exS.eq_5, exS.eq_6, exS.eq_7, exS.eq_8, exS.eq_9, exS.eq_12, exS.eq_13, exS.eq_14, exS.eq_15, exS.eq_16, exS.eq_17, exS.eq_18, exS.eq_19, exS.eq_20, exS.eq_21, exS.eq_22, evE.eq_1, evE.eq_2, evE.eq_3, evE.eq_4, evE.eq_5, evE.eq_6, evE.eq_7, evE.eq_8, evE.eq_9, evE.eq_10, evE.eq_11, evE.eq_12, evE.eq_13, evE.eq_14, evE.eq_15, evE.eq_16, evE.eq_17, evE.eq_18, evE.eq_19, evE.eq_20, evE.eq_21, evE.eq_22, evE.eq_23, evE.eq_24, evE.eq_30, evE.eq_31, evE.eq_32, evE.eq_33, evE.eq_35, evE.eq_36, evE.eq_37, evE.eq_38, evE.eq_39, evE.eq_41, evE.eq_42, evE.eq_43, evE.eq_44, evE.eq_45, evB, evJ, evTs, evI, outR, rngOf, itOf, mtTy, solid, puts, rvtOf, chsOf, slpD, isbD, newOk, setOs, evE.eq_25, evE.eq_26, evE.eq_28, evE.eq_29, evE.eq_40, evE.eq_46, allO, qArgs, qFin, callB, callV, prep, avs, lent, finOk, putB, backR, permd, cvR, flatC, atomD, h.law_draw.ms, h.Live_coming.ms, E1, E2, E3, ha, R3, I0, I1, mc, inits, slOf, fins, finL]
      · simp [exS.eq_1, exS.eq_2, exS.eq_3, exS.eq_4, exS.eq_5, exS.eq_6, exS.eq_7, exS.eq_8, exS.eq_9, exS.eq_12, exS.eq_13, exS.eq_14, exS.eq_15, exS.eq_16, exS.eq_17, exS.eq_18, exS.eq_19, exS.eq_20, exS.eq_21, exS.eq_22, evE.eq_1, evE.eq_2, evE.eq_3, evE.eq_4, evE.eq_5, evE.eq_6, evE.eq_7, evE.eq_8, evE.eq_9, evE.eq_10, evE.eq_11, evE.eq_12, evE.eq_13, evE.eq_14, evE.eq_15, evE.eq_16, evE.eq_17, evE.eq_18, evE.eq_19, evE.eq_20, evE.eq_21, evE.eq_22, evE.eq_23, evE.eq_24, evE.eq_30, evE.eq_31, evE.eq_32, evE.eq_33, evE.eq_35, evE.eq_36, evE.eq_37, evE.eq_38, evE.eq_39, evE.eq_41, evE.eq_42, evE.eq_43, evE.eq_44, evE.eq_45, evB, evJ, evTs, evI, outR, rngOf, itOf, mtTy, solid, puts, rvtOf, chsOf, slpD, isbD, newOk, setOs, evE.eq_25, evE.eq_26, evE.eq_28, evE.eq_29, evE.eq_40, evE.eq_46, allO, qArgs, qFin, callB, callV, prep, avs, lent, finOk, putB, backR, permd, cvR, flatC, atomD, h.law_draw.ms, h.Live_coming.ms, E1, E2, E3, ha, hc, R3, I0, I1, mc, inits, slOf, fins, finL]
    · obtain ⟨y, hy⟩ : ∃ y, y = ((N : Int) + 1) * b + (if c = 0 then 1 else 0) := ⟨_, rfl⟩
      have q : 0 ≤ ((N : Int) + 1) * b := Int.mul_nonneg (by omega) b0
      have q2 : ((N : Int) + 1) * b ≤ 301 * 3 := Int.mul_le_mul (by omega) (by omega) b0 (by omega)
      have y0 : 0 ≤ y ∧ y ≤ 1000 := by rw [hy]; split <;> omega
      have e : ls g N + ((N : Int) + 1) * b + (if c = 0 then 1 else 0) = ls g N + y := by rw [hy]; omega
      rw [e]
      by_cases md : y % ((N : Int) + 1) = 0
      · left
        exact ⟨y, .of' y0.1 (by omega), done_tell hd (tell_ok hd.Live_tell (by omega) rfl y0.1 md)⟩
      · right
        refine done_tell_x hd (tell_bar hd.Live_tell (by omega) fun z => md ?_)
        have := z.2
        rwa [show ls g N + y - ls g N = y by omega] at this
theorem undone_run (h : H_law_all_undone T) {g : Nat → Int} {N : Nat} (hN : N ≤ 300) : run T (msOf T) (n + 4) i_law_all_undone [.q, .m (lks g N), .m (nbs g N), .m (nws g N)] = .rt (.v (.bool true)) [.no, .o (lks g N), .o [], .o []] := by
  have R : rngOk 0 (N : Int) = true := rngOk_of (by omega) (by omega) (by omega) (by omega)
  obtain ⟨e', F, x4, rfl⟩ := ev_for_rng (Φ := run T (msOf T) (n + 3)) (ms := msOf T) (s := .rng (.cons (.op .sub (.bi .len (.cons (.var 1) (.nil))) (.int 1)) (.nil))) (i := 4) (b := l_law_all_undone_1) (e := [.no, .o (lks g N), .o (nbs g N), .o (nws g N), .no, .no]) (e1 := [.no, .o (lks g N), .o (nbs g N), .o (nws g N), .no, .no])
    (lo := 0) (n := N) (fun k e => ∃ x4, e = [.no, .o (lks g N), .o (nbs g (N - k)), .o (nws g (N - k)), x4, .no]) (by simp [exS.eq_1, exS.eq_2, exS.eq_3, exS.eq_4, exS.eq_5, exS.eq_6, exS.eq_7, exS.eq_8, exS.eq_9, exS.eq_12, exS.eq_13, exS.eq_14, exS.eq_15, exS.eq_16, exS.eq_17, exS.eq_18, exS.eq_19, exS.eq_20, exS.eq_21, exS.eq_22, evE.eq_1, evE.eq_2, evE.eq_3, evE.eq_4, evE.eq_5, evE.eq_6, evE.eq_7, evE.eq_8, evE.eq_9, evE.eq_10, evE.eq_11, evE.eq_12, evE.eq_13, evE.eq_14, evE.eq_15, evE.eq_16, evE.eq_17, evE.eq_18, evE.eq_19, evE.eq_20, evE.eq_21, evE.eq_22, evE.eq_23, evE.eq_24, evE.eq_30, evE.eq_31, evE.eq_32, evE.eq_33, evE.eq_35, evE.eq_36, evE.eq_37, evE.eq_38, evE.eq_39, evE.eq_41, evE.eq_42, evE.eq_43, evE.eq_44, evE.eq_45, evB, evJ, evTs, evI, outR, rngOf, itOf, mtTy, solid, puts, rvtOf, chsOf, slpD, isbD, newOk, setOs, R]) ⟨_, rfl⟩ fun k e hk he => by
      obtain ⟨x4, rfl⟩ := he
      obtain ⟨j, hj⟩ : ∃ j, N - k = j + 1 := ⟨N - k - 1, by omega⟩
      have hj2 : N - (k + 1) = j := by omega
      have Lo := look_run (n := n) h.law_look (g := g) (N := j + 1) (by omega)
      have U := undo_ok (n := n + 2) h.Live_undo (g := g) (N := j)
      have I := lks_at (g := g) (N := N) (k := j + 1) (by omega)
      have e1 : (N : Int) + 1 - 1 - (k : Int) = ((j + 1 : Nat) : Int) := by omega
      have e1' : (N : Int) - (k : Int) = ((j + 1 : Nat) : Int) := by omega
      have l0 : (lks g N).length = N + 1 := lks_len
      have q := @lk_eq' g (j + 1)
      rw [hj, hj2]
      refine ⟨[.no, .o (lks g N), .o (nbs g j), .o (nws g j), .v (.int (0 + (k : Int))), .no], .inl ?_, _, rfl⟩
      rw [Int.zero_add]
      generalize lks g N = Z at *
      generalize lk g (j + 1) = Kx at *
      generalize nws g j = Xj at *
      generalize nbs g j = Yj at *
      generalize nws g (j + 1) = Xk at *
      generalize nbs g (j + 1) = Yk at *
      simp only [Int.natCast_add, Int.cast_ofNat_Int] at I e1 e1'
      simp [l_law_all_undone_1, exS.eq_1, exS.eq_2, exS.eq_3, exS.eq_4, exS.eq_5, exS.eq_6, exS.eq_7, exS.eq_8, exS.eq_9, exS.eq_12, exS.eq_13, exS.eq_14, exS.eq_15, exS.eq_16, exS.eq_17, exS.eq_18, exS.eq_19, exS.eq_20, exS.eq_21, exS.eq_22, evE.eq_1, evE.eq_2, evE.eq_3, evE.eq_4, evE.eq_5, evE.eq_6, evE.eq_7, evE.eq_8, evE.eq_9, evE.eq_10, evE.eq_11, evE.eq_12, evE.eq_13, evE.eq_14, evE.eq_15, evE.eq_16, evE.eq_17, evE.eq_18, evE.eq_19, evE.eq_20, evE.eq_21, evE.eq_22, evE.eq_23, evE.eq_24, evE.eq_30, evE.eq_31, evE.eq_32, evE.eq_33, evE.eq_35, evE.eq_36, evE.eq_37, evE.eq_38, evE.eq_39, evE.eq_41, evE.eq_42, evE.eq_43, evE.eq_44, evE.eq_45, evB, evJ, evTs, evI, outR, rngOf, itOf, mtTy, solid, puts, rvtOf, chsOf, slpD, isbD, newOk, setOs, evE.eq_25, evE.eq_26, evE.eq_28, evE.eq_29, evE.eq_40, evE.eq_46, allO, qArgs, qFin, callB, callV, prep, avs, lent, finOk, putB, backR, permd, cvR, flatC, atomD, h.law_look.ms, h.Live_undo.ms, Lo, U, l0, I, e1, e1', q]
  have F : exS (run T (msOf T) (n + 3)) (msOf T) f_law_all_undone_1 [.no, .o (lks g N), .o (nbs g N), .o (nws g N), .no, .no] = .nx [.no, .o (lks g N), .o [], .o [], x4, .no] := by
    have e1 : nbs g (N - N) = [] := by rw [Nat.sub_self]; rfl
    have e2 : nws g (N - N) = [] := by rw [Nat.sub_self]; rfl
    rw [e1, e2] at F
    exact F
  have U := undo_no (n := n + 2) h.Live_undo
  have Lo := look_run (n := n) h.law_look (g := g) (N := 0) (by omega)
  have z1 : nws g 0 = [] := rfl
  have z2 : nbs g 0 = [] := rfl
  rw [z1, z2] at Lo
  have I := lks_at (g := g) (N := N) (k := 0) (by omega)
  have q := @lk_eq' g 0
  rw [h.go]
  generalize lks g N = Z at *
  generalize lk g 0 = Kx at *
  generalize nws g N = X at *
  generalize nbs g N = Y at *
  simp at I
  simp [runDf, d_law_all_undone, b_law_all_undone, List.replicate]
  simp [exS.eq_1, exS.eq_2, exS.eq_3, exS.eq_4, exS.eq_5, exS.eq_6, exS.eq_7, exS.eq_8, exS.eq_9, exS.eq_12, exS.eq_13, exS.eq_14, exS.eq_15, exS.eq_16, exS.eq_17, exS.eq_18, exS.eq_19, exS.eq_20, exS.eq_21, exS.eq_22, evE.eq_1, evE.eq_2, evE.eq_3, evE.eq_4, evE.eq_5, evE.eq_6, evE.eq_7, evE.eq_8, evE.eq_9, evE.eq_10, evE.eq_11, evE.eq_12, evE.eq_13, evE.eq_14, evE.eq_15, evE.eq_16, evE.eq_17, evE.eq_18, evE.eq_19, evE.eq_20, evE.eq_21, evE.eq_22, evE.eq_23, evE.eq_24, evE.eq_30, evE.eq_31, evE.eq_32, evE.eq_33, evE.eq_35, evE.eq_36, evE.eq_37, evE.eq_38, evE.eq_39, evE.eq_41, evE.eq_42, evE.eq_43, evE.eq_44, evE.eq_45, evB, evJ, evTs, evI, outR, rngOf, itOf, mtTy, solid, puts, rvtOf, chsOf, slpD, isbD, newOk, setOs, evE.eq_25, evE.eq_26, evE.eq_28, evE.eq_29, evE.eq_40, evE.eq_46, allO, qArgs, qFin, callB, callV, prep, avs, lent, finOk, putB, backR, permd, cvR, flatC, atomD, exS, h.law_look.ms, h.Live_undo.ms, F, U, Lo, I, q, hdGo, subX, okN, offN, isMe, evH, inits, slOf, fins, finL]
end
end Vc
end
section
set_option Elab.async false
set_option linter.all false
set_option maxRecDepth 100000
set_option exponentiation.threshold 1000
namespace Vc
open PySem PySem.Spec PyProof.Rows L2
/-- a call that stands: it leads from i to i + 1 -/
def TK (T : Nat → Option Df) (n : Nat) (g : Nat → Int) (i : Nat) (x : D) : Prop := ∃ w v : Int, x = .tuple [.int w, .int v] ∧ run T (msOf T) (n + 4) i_law_done [.q, .v (.int w), .v (.int v), .m (nbs g i), .m (nws g i)] = .rt (.v (.bool true)) [.no, .no, .no, .o (nbs g (i + 1)), .o (nws g (i + 1))]
structure SD (T : Nat → Option Df) (n : Nat) (g : Nat → Int) (N : Nat) (sd : List D) : Prop where
  len : sd.length = N
  tk : ∀ i x, sd[i]? = some x → TK T n g i x
theorem SD.up {T : Nat → Option Df} {n : Nat} {g : Nat → Int} {N : Nat} {sd : List D} {y : Int} {x : D} (h : SD T n g N sd) (hx : TK T n (up g N y) N x) : SD T n (up g N y) (N + 1) (sd ++ [x]) := by
  refine ⟨by simp [h.len], fun i z hz => ?_⟩
  by_cases hi : i < N
  · rw [List.getElem?_append_left (by rw [h.len]; exact hi)] at hz
    obtain ⟨w, v, e, P⟩ := h.tk i z hz
    refine ⟨w, v, e, ?_⟩
    rw [nbs_up (by omega), nws_up (by omega), nbs_up (by omega), nws_up (by omega)]
    exact P
  · have : i = N := by
      have := (List.getElem?_eq_some_iff.mp hz).1
      simp [h.len] at this
      omega
    subst this
    rw [List.getElem?_append_right (by rw [h.len]; exact Nat.le_refl _)] at hz
    simp [h.len] at hz
    subst hz
    exact hx
theorem SD.dn {T : Nat → Option Df} {n : Nat} {g : Nat → Int} {N : Nat} {sd : List D} {x : D} (h : SD T n g (N + 1) (sd ++ [x])) : SD T n g N sd := by
  have hl : sd.length = N := by have := h.len; simp at this; exact this
  exact ⟨hl, fun i z hz => h.tk i z (by rw [List.getElem?_append_left (List.getElem?_eq_some_iff.mp hz).1]; exact hz)⟩
section
variable {T : Nat → Option Df} {n : Nat}
set_option maxHeartbeats 0 in
theorem right47_run (h : H_law_right_47 T) {ds : List D} (hw : Wl 0 ds) : ∃ ds', run T (msOf T) (n + 5) i_law_right_47 [.m ds] = .rt (.v (.bool true)) [.o ds'] := by
  have Dw := draws (n := n + 3) h.law_draw.h
  have g0 : GB 200 (fun _ => 0) 0 := fun k h1 h2 => by omega
  have z1 : nws (fun _ => 0) 0 = [] := rfl
  have z2 : nbs (fun _ => 0) 0 = [] := rfl
  have z3 : lks (fun _ => 0) 0 = [lk (fun _ => 0) 0] := rfl
  have L0 := look_run (n := n + 1) h.law_look (g := fun _ => 0) (N := 0) (by omega)
  rw [z1, z2] at L0
  have S0 : exS (run T (msOf T) (n + 4)) (msOf T) (nthS b_law_right_47 0) [.o ds, .no, .no, .no, .no, .no, .no, .no, .no, .no, .no, .no] = .nx [.o ds, .no, .o [], .no, .no, .no, .no, .no, .o [], .o [], .no, .no] := by
    simp [nthS, b_law_right_47, exS.eq_1, exS.eq_2, exS.eq_3, exS.eq_4, exS.eq_5, exS.eq_6, exS.eq_7, exS.eq_8, exS.eq_9, exS.eq_12, exS.eq_13, exS.eq_14, exS.eq_15, exS.eq_16, exS.eq_17, exS.eq_18, exS.eq_19, exS.eq_20, exS.eq_21, exS.eq_22, evE.eq_1, evE.eq_2, evE.eq_3, evE.eq_4, evE.eq_5, evE.eq_6, evE.eq_7, evE.eq_8, evE.eq_9, evE.eq_10, evE.eq_11, evE.eq_12, evE.eq_13, evE.eq_14, evE.eq_15, evE.eq_16, evE.eq_17, evE.eq_18, evE.eq_19, evE.eq_20, evE.eq_21, evE.eq_22, evE.eq_23, evE.eq_24, evE.eq_30, evE.eq_31, evE.eq_32, evE.eq_33, evE.eq_35, evE.eq_36, evE.eq_37, evE.eq_38, evE.eq_39, evE.eq_41, evE.eq_42, evE.eq_43, evE.eq_44, evE.eq_45, evB, evJ, evTs, evI, outR, rngOf, itOf, mtTy, solid, puts, rvtOf, chsOf, slpD, isbD, newOk, setOs, evE.eq_25, evE.eq_26, evE.eq_28, evE.eq_29, evE.eq_40, evE.eq_46, allO, qArgs, qFin, callB, callV, prep, avs, lent, finOk, putB, backR, permd, cvR, flatC, atomD]
  have S1 : exS (run T (msOf T) (n + 4)) (msOf T) (nthS b_law_right_47 1) [.o ds, .no, .o [], .no, .no, .no, .no, .no, .o [], .o [], .no, .no] = .nx [.o ds, .no, .o [], .o (lks (fun _ => 0) 0), .no, .no, .no, .no, .o [], .o [], .no, .no] := by
    rw [z3]
    generalize lk (fun _ => 0) 0 = K0 at *
    simp [nthS, b_law_right_47, exS.eq_1, exS.eq_2, exS.eq_3, exS.eq_4, exS.eq_5, exS.eq_6, exS.eq_7, exS.eq_8, exS.eq_9, exS.eq_12, exS.eq_13, exS.eq_14, exS.eq_15, exS.eq_16, exS.eq_17, exS.eq_18, exS.eq_19, exS.eq_20, exS.eq_21, exS.eq_22, evE.eq_1, evE.eq_2, evE.eq_3, evE.eq_4, evE.eq_5, evE.eq_6, evE.eq_7, evE.eq_8, evE.eq_9, evE.eq_10, evE.eq_11, evE.eq_12, evE.eq_13, evE.eq_14, evE.eq_15, evE.eq_16, evE.eq_17, evE.eq_18, evE.eq_19, evE.eq_20, evE.eq_21, evE.eq_22, evE.eq_23, evE.eq_24, evE.eq_30, evE.eq_31, evE.eq_32, evE.eq_33, evE.eq_35, evE.eq_36, evE.eq_37, evE.eq_38, evE.eq_39, evE.eq_41, evE.eq_42, evE.eq_43, evE.eq_44, evE.eq_45, evB, evJ, evTs, evI, outR, rngOf, itOf, mtTy, solid, puts, rvtOf, chsOf, slpD, isbD, newOk, setOs, evE.eq_25, evE.eq_26, evE.eq_28, evE.eq_29, evE.eq_40, evE.eq_46, allO, qArgs, qFin, callB, callV, prep, avs, lent, finOk, putB, backR, permd, cvR, flatC, atomD, h.law_look.ms, L0]
  obtain ⟨a, d1, E1, a0, a1, w1⟩ := Dw 0 ds 6 hw (by omega) (by decide) (.of' (by decide) (by decide))
  have pick : ∃ m : Int, ixD (.list [.int 41, .int 121]) (.int (if a = 0 then 1 else 0)) = some (.v (.int m)) ∧ 0 < m ∧ m ≤ 121 := by
    by_cases ha : a = 0
    · rw [if_pos ha]; exact ⟨121, rfl, by decide, by decide⟩
    · rw [if_neg ha]; exact ⟨41, rfl, by decide, by decide⟩
  obtain ⟨m, I, m0, m1⟩ := pick
  obtain ⟨b, d2, E2, b0, b1, w2⟩ := Dw 1 d1 m w1 (by omega) m0 (.of' (by omega) (by omega))
  have R : rngOk 0 b = true := rngOk_of (by omega) (by omega) (by omega) (by omega)
  obtain ⟨e', F, d3, g, N, sd, x4, x5, rfl, w3, hN, hG, hS⟩ := ev_for_rng (Φ := run T (msOf T) (n + 4)) (ms := msOf T) (s := .rng (.cons (.call 10 (.cons (.var 0) (.cons (.ix (.lst (.cons (.int 41) (.cons (.int 121) (.nil)))) (.bi .int (.cons (.cmp .eq (.call 10 (.cons (.var 0) (.cons (.int 6) (.nil)))) (.int 0)) (.nil)))) (.nil)))) (.nil))) (i := 4) (b := l_law_right_47_1)
    (e := [.o ds, .no, .o [], .o (lks (fun _ => 0) 0), .no, .no, .no, .no, .o [], .o [], .no, .no]) (e1 := [.o d2, .no, .o [], .o (lks (fun _ => 0) 0), .no, .no, .no, .no, .o [], .o [], .no, .no])
    (lo := 0) (n := b.toNat) (fun k e => ∃ ds' g N sd x4 x5, e = [.o ds', .no, .o sd, .o (lks g N), x4, x5, .no, .no, .o (nbs g N), .o (nws g N), .no, .no] ∧ Wl (2 + 20 * k) ds' ∧ N ≤ k ∧ GB 200 g N ∧ SD T n g N sd) (by
      by_cases ha : a = 0
      · subst ha
        simp at I
        simp [exS.eq_1, exS.eq_2, exS.eq_3, exS.eq_4, exS.eq_5, exS.eq_6, exS.eq_7, exS.eq_8, exS.eq_9, exS.eq_12, exS.eq_13, exS.eq_14, exS.eq_15, exS.eq_16, exS.eq_17, exS.eq_18, exS.eq_19, exS.eq_20, exS.eq_21, exS.eq_22, evE.eq_1, evE.eq_2, evE.eq_3, evE.eq_4, evE.eq_5, evE.eq_6, evE.eq_7, evE.eq_8, evE.eq_9, evE.eq_10, evE.eq_11, evE.eq_12, evE.eq_13, evE.eq_14, evE.eq_15, evE.eq_16, evE.eq_17, evE.eq_18, evE.eq_19, evE.eq_20, evE.eq_21, evE.eq_22, evE.eq_23, evE.eq_24, evE.eq_30, evE.eq_31, evE.eq_32, evE.eq_33, evE.eq_35, evE.eq_36, evE.eq_37, evE.eq_38, evE.eq_39, evE.eq_41, evE.eq_42, evE.eq_43, evE.eq_44, evE.eq_45, evB, evJ, evTs, evI, outR, rngOf, itOf, mtTy, solid, puts, rvtOf, chsOf, slpD, isbD, newOk, setOs, evE.eq_25, evE.eq_26, evE.eq_28, evE.eq_29, evE.eq_40, evE.eq_46, allO, qArgs, qFin, callB, callV, prep, avs, lent, finOk, putB, backR, permd, cvR, flatC, atomD, h.law_draw.ms, E1, I, E2, R]
      · rw [if_neg ha] at I
        simp [exS.eq_1, exS.eq_2, exS.eq_3, exS.eq_4, exS.eq_5, exS.eq_6, exS.eq_7, exS.eq_8, exS.eq_9, exS.eq_12, exS.eq_13, exS.eq_14, exS.eq_15, exS.eq_16, exS.eq_17, exS.eq_18, exS.eq_19, exS.eq_20, exS.eq_21, exS.eq_22, evE.eq_1, evE.eq_2, evE.eq_3, evE.eq_4, evE.eq_5, evE.eq_6, evE.eq_7, evE.eq_8, evE.eq_9, evE.eq_10, evE.eq_11, evE.eq_12, evE.eq_13, evE.eq_14, evE.eq_15, evE.eq_16, evE.eq_17, evE.eq_18, evE.eq_19, evE.eq_20, evE.eq_21, evE.eq_22, evE.eq_23, evE.eq_24, evE.eq_30, evE.eq_31, evE.eq_32, evE.eq_33, evE.eq_35, evE.eq_36, evE.eq_37, evE.eq_38, evE.eq_39, evE.eq_41, evE.eq_42, evE.eq_43, evE.eq_44, evE.eq_45, evB, evJ, evTs, evI, outR, rngOf, itOf, mtTy, solid, puts, rvtOf, chsOf, slpD, isbD, newOk, setOs, evE.eq_25, evE.eq_26, evE.eq_28, evE.eq_29, evE.eq_40, evE.eq_46, allO, qArgs, qFin, callB, callV, prep, avs, lent, finOk, putB, backR, permd, cvR, flatC, atomD, h.law_draw.ms, E1, ha, I, E2, R]) ⟨d2, fun _ => 0, 0, [], _, _, rfl, w2, Nat.le_refl _, g0, rfl, fun i x hx => by simp at hx⟩ fun k e hk he => by
      obtain ⟨ds2, g, N, sd, x4, x5, rfl, w3, hN, hG, hS⟩ := he
      obtain ⟨t, ht⟩ : ∃ t : Sl, t = .v (.int (0 + (k : Int))) := ⟨_, rfl⟩
      have hkb : k < 121 := by omega
      -- the end of the body
      have SB : ∀ (ds' : List D) (g' : Nat → Int) (N' : Nat) (sd' : List D) (x5' : Sl), N' ≤ 200 → sd'.length = N' → exSs (run T (msOf T) (n + 4)) (msOf T) (dropS l_law_right_47_1 1) [.o ds', .no, .o sd', .o (lks g' N'), t, x5', .no, .no, .o (nbs g' N'), .o (nws g' N'), .no, .no] = .nx [.o ds', .no, .o sd', .o (lks g' N'), t, x5', .no, .no, .o (nbs g' N'), .o (nws g' N'), .no, .no] := by
        intro ds' g' N' sd' x5' hN' hl
        have Lo := look_run (n := n + 1) h.law_look (g := g') (N := N') (by omega)
        have Le := lvlen_run (n := n + 3) h.Live___len__ (A := nbs g' N') (B := nws g' N')
        have l1 : (nbs g' N').length = N' := by simp
        rw [l1] at Le
        have I1 := @lks_last g' N'
        have q := @lk_eq' g' N'
        have cd1 : cd (0 ≤ (N' : Int) ∧ (N' : Int) < 2 ^ 63) = true := cd_iff.mpr (by omega)
        simp at cd1
        generalize lks g' N' = Z at *
        generalize lk g' N' = Kx at *
        generalize nws g' N' = X at *
        generalize nbs g' N' = Y at *
        simp [dropS, l_law_right_47_1, exS.eq_1, exS.eq_2, exS.eq_3, exS.eq_4, exS.eq_5, exS.eq_6, exS.eq_7, exS.eq_8, exS.eq_9, exS.eq_12, exS.eq_13, exS.eq_14, exS.eq_15, exS.eq_16, exS.eq_17, exS.eq_18, exS.eq_19, exS.eq_20, exS.eq_21, exS.eq_22, evE.eq_1, evE.eq_2, evE.eq_3, evE.eq_4, evE.eq_5, evE.eq_6, evE.eq_7, evE.eq_8, evE.eq_9, evE.eq_10, evE.eq_11, evE.eq_12, evE.eq_13, evE.eq_14, evE.eq_15, evE.eq_16, evE.eq_17, evE.eq_18, evE.eq_19, evE.eq_20, evE.eq_21, evE.eq_22, evE.eq_23, evE.eq_24, evE.eq_30, evE.eq_31, evE.eq_32, evE.eq_33, evE.eq_35, evE.eq_36, evE.eq_37, evE.eq_38, evE.eq_39, evE.eq_41, evE.eq_42, evE.eq_43, evE.eq_44, evE.eq_45, evB, evJ, evTs, evI, outR, rngOf, itOf, mtTy, solid, puts, rvtOf, chsOf, slpD, isbD, newOk, setOs, evE.eq_25, evE.eq_26, evE.eq_28, evE.eq_29, evE.eq_40, evE.eq_46, allO, qArgs, qFin, callB, callV, prep, avs, lent, finOk, putB, backR, permd, cvR, flatC, atomD, h.law_look.ms, h.Live___len__.ms, Lo, Le, I1, q, hl, cd1]
      obtain ⟨a, d4, E4, a0, a1, w4⟩ := Dw (2 + 20 * k) ds2 6 w3 (by omega) (by decide) (.of' (by decide) (by decide))
      by_cases hu : a = 0 ∧ N ≠ 0
      · -- one undone
        obtain ⟨rfl, hN0⟩ := hu
        obtain ⟨M, rfl⟩ : ∃ M, N = M + 1 := ⟨N - 1, by omega⟩
        obtain ⟨s0, c, rfl⟩ : ∃ s0 c, sd = s0 ++ [c] := by
          have : sd ≠ [] := fun z => by have := hS.len; rw [z] at this; simp at this
          exact ⟨sd.dropLast, sd.getLast this, (List.dropLast_concat_getLast this).symm⟩
        have U := undo_ok (n := n + 3) h.Live_undo (g := g) (N := M)
        have ls0 : s0.length = M := by have := hS.len; simp at this; exact this
        have ne : eqD (.list (s0 ++ [c])) (.list []) = some false := by rw [eq_nil0]; simp
        have l2 : (lks g M).length = M + 1 := lks_len
        have SA : exS (run T (msOf T) (n + 4)) (msOf T) (nthS l_law_right_47_1 0) [.o ds2, .no, .o (s0 ++ [c]), .o (lks g (M + 1)), t, x5, .no, .no, .o (nbs g (M + 1)), .o (nws g (M + 1)), .no, .no] = .nx [.o d4, .no, .o s0, .o (lks g M), t, x5, .no, .no, .o (nbs g M), .o (nws g M), .no, .no] := by
          rw [lks_succ]
          generalize lks g M = Z at *
          generalize lk g (M + 1) = Kx at *
          generalize nws g M = X at *
          generalize nbs g M = Y at *
          generalize nws g (M + 1) = X' at *
          generalize nbs g (M + 1) = Y' at *
          simp [nthS, l_law_right_47_1, exS.eq_1, exS.eq_2, exS.eq_3, exS.eq_4, exS.eq_5, exS.eq_6, exS.eq_7, exS.eq_8, exS.eq_9, exS.eq_12, exS.eq_13, exS.eq_14, exS.eq_15, exS.eq_16, exS.eq_17, exS.eq_18, exS.eq_19, exS.eq_20, exS.eq_21, exS.eq_22, evE.eq_1, evE.eq_2, evE.eq_3, evE.eq_4, evE.eq_5, evE.eq_6, evE.eq_7, evE.eq_8, evE.eq_9, evE.eq_10, evE.eq_11, evE.eq_12, evE.eq_13, evE.eq_14, evE.eq_15, evE.eq_16, evE.eq_17, evE.eq_18, evE.eq_19, evE.eq_20, evE.eq_21, evE.eq_22, evE.eq_23, evE.eq_24, evE.eq_30, evE.eq_31, evE.eq_32, evE.eq_33, evE.eq_35, evE.eq_36, evE.eq_37, evE.eq_38, evE.eq_39, evE.eq_41, evE.eq_42, evE.eq_43, evE.eq_44, evE.eq_45, evB, evJ, evTs, evI, outR, rngOf, itOf, mtTy, solid, puts, rvtOf, chsOf, slpD, isbD, newOk, setOs, evE.eq_25, evE.eq_26, evE.eq_28, evE.eq_29, evE.eq_40, evE.eq_46, allO, qArgs, qFin, callB, callV, prep, avs, lent, finOk, putB, backR, permd, cvR, flatC, atomD, muD, h.law_draw.ms, h.Live_undo.ms, E4, ne, U, ls0, l2]
        refine ⟨[.o d4, .no, .o s0, .o (lks g M), t, x5, .no, .no, .o (nbs g M), .o (nws g M), .no, .no], .inl ?_, d4, g, M, s0, _, _, rfl, w4.mono (by omega), by omega, hG.dn, hS.dn⟩
        show exSs _ _ (dropS l_law_right_47_1 0) ([.o ds2, .no, .o (s0 ++ [c]), .o (lks g (M + 1)), .v (.int (0 + (k : Int))), x5, .no, .no, .o (nbs g (M + 1)), .o (nws g (M + 1)), .no, .no]) = _
        rw [← ht, exSs_at SA rfl, SB d4 g M s0 x5 (by omega) ls0]
      · obtain ⟨d5, w, v, P, w5, Q⟩ := drawn_run (n := n) (T := T) h.law_drawn_call h.law_done (g := g) (N := N) w4 (by omega) (by omega) hG (by omega)
        have ne : eqD (.list sd) (.list []) = some (decide (N = 0)) := by
          rw [eq_nil0]
          congr 1
          rw [decide_eq_decide, ← List.length_eq_zero_iff, hS.len]
        have I0 : ∀ a b : D, ixD (.tuple [a, b]) (.int 0) = some (.v a) := fun _ _ => rfl
        have I1 : ∀ a b : D, ixD (.tuple [a, b]) (.int 1) = some (.v b) := fun _ _ => rfl
        have l1 : sd.length < 16777216 := by rw [hS.len]; omega
        have l2 : (lks g N).length < 16777216 := by rw [lks_len]; omega
        rcases Q with ⟨y, hy, Q⟩ | Q
        · have Lo := look_run (n := n + 1) h.law_look (g := up g N y) (N := N + 1) (by omega)
          have SA : exS (run T (msOf T) (n + 4)) (msOf T) (nthS l_law_right_47_1 0) [.o ds2, .no, .o sd, .o (lks g N), t, x5, .no, .no, .o (nbs g N), .o (nws g N), .no, .no] = .nx [.o d5, .no, .o (sd ++ [.tuple [.int w, .int v]]), .o (lks (up g N y) (N + 1)), t, .v (.tuple [.int w, .int v]), .no, .no, .o (nbs (up g N y) (N + 1)), .o (nws (up g N y) (N + 1)), .no, .no] := by
            rw [lks_up]
            generalize lks g N = Z at *
            generalize lk (up g N y) (N + 1) = Kx at *
            generalize nws g N = X at *
            generalize nbs g N = Y at *
            generalize nws (up g N y) (N + 1) = X' at *
            generalize nbs (up g N y) (N + 1) = Y' at *
            by_cases ha : a = 0
            · have hN0 : N = 0 := by
                by_cases z : N = 0
                · exact z
                · exact absurd ⟨ha, z⟩ hu
              subst ha
              rw [hN0] at ne
              simp [nthS, l_law_right_47_1, exS.eq_1, exS.eq_2, exS.eq_3, exS.eq_4, exS.eq_5, exS.eq_6, exS.eq_7, exS.eq_8, exS.eq_9, exS.eq_12, exS.eq_13, exS.eq_14, exS.eq_15, exS.eq_16, exS.eq_17, exS.eq_18, exS.eq_19, exS.eq_20, exS.eq_21, exS.eq_22, evE.eq_1, evE.eq_2, evE.eq_3, evE.eq_4, evE.eq_5, evE.eq_6, evE.eq_7, evE.eq_8, evE.eq_9, evE.eq_10, evE.eq_11, evE.eq_12, evE.eq_13, evE.eq_14, evE.eq_15, evE.eq_16, evE.eq_17, evE.eq_18, evE.eq_19, evE.eq_20, evE.eq_21, evE.eq_22, evE.eq_23, evE.eq_24, evE.eq_30, evE.eq_31, evE.eq_32, evE.eq_33, evE.eq_35, evE.eq_36, evE.eq_37, evE.eq_38, evE.eq_39, evE.eq_41, evE.eq_42, evE.eq_43, evE.eq_44, evE.eq_45, evB, evJ, evTs, evI, outR, rngOf, itOf, mtTy, solid, puts, rvtOf, chsOf, slpD, isbD, newOk, setOs, evE.eq_25, evE.eq_26, evE.eq_28, evE.eq_29, evE.eq_40, evE.eq_46, allO, qArgs, qFin, callB, callV, prep, avs, lent, finOk, putB, backR, permd, cvR, flatC, atomD, h.law_draw.ms, h.law_drawn_call.ms, h.law_done.ms, h.law_look.ms, E4, ne, P, I0, I1, Q, Lo, l1, l2]
            · simp [nthS, l_law_right_47_1, exS.eq_1, exS.eq_2, exS.eq_3, exS.eq_4, exS.eq_5, exS.eq_6, exS.eq_7, exS.eq_8, exS.eq_9, exS.eq_12, exS.eq_13, exS.eq_14, exS.eq_15, exS.eq_16, exS.eq_17, exS.eq_18, exS.eq_19, exS.eq_20, exS.eq_21, exS.eq_22, evE.eq_1, evE.eq_2, evE.eq_3, evE.eq_4, evE.eq_5, evE.eq_6, evE.eq_7, evE.eq_8, evE.eq_9, evE.eq_10, evE.eq_11, evE.eq_12, evE.eq_13, evE.eq_14, evE.eq_15, evE.eq_16, evE.eq_17, evE.eq_18, evE.eq_19, evE.eq_20, evE.eq_21, evE.eq_22, evE.eq_23, evE.eq_24, evE.eq_30, evE.eq_31, evE.eq_32, evE.eq_33, evE.eq_35, evE.eq_36, evE.eq_37, evE.eq_38, evE.eq_39, evE.eq_41, evE.eq_42, evE.eq_43, evE.eq_44, evE.eq_45, evB, evJ, evTs, evI, outR, rngOf, itOf, mtTy, solid, puts, rvtOf, chsOf, slpD, isbD, newOk, setOs, evE.eq_25, evE.eq_26, evE.eq_28, evE.eq_29, evE.eq_40, evE.eq_46, allO, qArgs, qFin, callB, callV, prep, avs, lent, finOk, putB, backR, permd, cvR, flatC, atomD, h.law_draw.ms, h.law_drawn_call.ms, h.law_done.ms, h.law_look.ms, E4, ha, ne, P, I0, I1, Q, Lo, l1, l2]
          have hS' : SD T n (up g N y) (N + 1) (sd ++ [.tuple [.int w, .int v]]) := hS.up ⟨w, v, rfl, by rw [nbs_up (Nat.le_refl _), nws_up (Nat.le_refl _)]; exact Q⟩
          refine ⟨[.o d5, .no, .o (sd ++ [.tuple [.int w, .int v]]), .o (lks (up g N y) (N + 1)), t, .v (.tuple [.int w, .int v]), .no, .no, .o (nbs (up g N y) (N + 1)), .o (nws (up g N y) (N + 1)), .no, .no], .inl ?_, d5, up g N y, N + 1, _, _, _, rfl, w5.mono (by omega), by omega, GB.up hG (hy.mono (by omega)), hS'⟩
          show exSs _ _ (dropS l_law_right_47_1 0) ([.o ds2, .no, .o sd, .o (lks g N), .v (.int (0 + (k : Int))), x5, .no, .no, .o (nbs g N), .o (nws g N), .no, .no]) = _
          rw [← ht, exSs_at SA rfl, SB d5 (up g N y) (N + 1) _ _ (by omega) hS'.len]
        · have SA : exS (run T (msOf T) (n + 4)) (msOf T) (nthS l_law_right_47_1 0) [.o ds2, .no, .o sd, .o (lks g N), t, x5, .no, .no, .o (nbs g N), .o (nws g N), .no, .no] = .nx [.o d5, .no, .o sd, .o (lks g N), t, .v (.tuple [.int w, .int v]), .no, .no, .o (nbs g N), .o (nws g N), .no, .no] := by
            generalize lks g N = Z at *
            generalize nws g N = X at *
            generalize nbs g N = Y at *
            by_cases ha : a = 0
            · have hN0 : N = 0 := by
                by_cases z : N = 0
                · exact z
                · exact absurd ⟨ha, z⟩ hu
              subst ha
              rw [hN0] at ne
              simp [nthS, l_law_right_47_1, exS.eq_1, exS.eq_2, exS.eq_3, exS.eq_4, exS.eq_5, exS.eq_6, exS.eq_7, exS.eq_8, exS.eq_9, exS.eq_12, exS.eq_13, exS.eq_14, exS.eq_15, exS.eq_16, exS.eq_17, exS.eq_18, exS.eq_19, exS.eq_20, exS.eq_21, exS.eq_22, evE.eq_1, evE.eq_2, evE.eq_3, evE.eq_4, evE.eq_5, evE.eq_6, evE.eq_7, evE.eq_8, evE.eq_9, evE.eq_10, evE.eq_11, evE.eq_12, evE.eq_13, evE.eq_14, evE.eq_15, evE.eq_16, evE.eq_17, evE.eq_18, evE.eq_19, evE.eq_20, evE.eq_21, evE.eq_22, evE.eq_23, evE.eq_24, evE.eq_30, evE.eq_31, evE.eq_32, evE.eq_33, evE.eq_35, evE.eq_36, evE.eq_37, evE.eq_38, evE.eq_39, evE.eq_41, evE.eq_42, evE.eq_43, evE.eq_44, evE.eq_45, evB, evJ, evTs, evI, outR, rngOf, itOf, mtTy, solid, puts, rvtOf, chsOf, slpD, isbD, newOk, setOs, evE.eq_25, evE.eq_26, evE.eq_28, evE.eq_29, evE.eq_40, evE.eq_46, allO, qArgs, qFin, callB, callV, prep, avs, lent, finOk, putB, backR, permd, cvR, flatC, atomD, h.law_draw.ms, h.law_drawn_call.ms, h.law_done.ms, h.law_look.ms, E4, ne, P, I0, I1, Q, l1, l2]
            · simp [nthS, l_law_right_47_1, exS.eq_1, exS.eq_2, exS.eq_3, exS.eq_4, exS.eq_5, exS.eq_6, exS.eq_7, exS.eq_8, exS.eq_9, exS.eq_12, exS.eq_13, exS.eq_14, exS.eq_15, exS.eq_16, exS.eq_17, exS.eq_18, exS.eq_19, exS.eq_20, exS.eq_21, exS.eq_22, evE.eq_1, evE.eq_2, evE.eq_3, evE.eq_4, evE.eq_5, evE.eq_6, evE.eq_7, evE.eq_8, evE.eq_9, evE.eq_10, evE.eq_11, evE.eq_12, evE.eq_13, evE.eq_14, evE.eq_15, evE.eq_16, evE.eq_17, evE.eq_18, evE.eq_19, evE.eq_20, evE.eq_21, evE.eq_22, evE.eq_23, evE.eq_24, evE.eq_30, evE.eq_31, evE.eq_32, evE.eq_33, evE.eq_35, evE.eq_36, evE.eq_37, evE.eq_38, evE.eq_39, evE.eq_41, evE.eq_42, evE.eq_43, evE.eq_44, evE.eq_45, evB, evJ, evTs, evI, outR, rngOf, itOf, mtTy, solid, puts, rvtOf, chsOf, slpD, isbD, newOk, setOs, evE.eq_25, evE.eq_26, evE.eq_28, evE.eq_29, evE.eq_40, evE.eq_46, allO, qArgs, qFin, callB, callV, prep, avs, lent, finOk, putB, backR, permd, cvR, flatC, atomD, h.law_draw.ms, h.law_drawn_call.ms, h.law_done.ms, h.law_look.ms, E4, ha, ne, P, I0, I1, Q, l1, l2]
          refine ⟨[.o d5, .no, .o sd, .o (lks g N), t, .v (.tuple [.int w, .int v]), .no, .no, .o (nbs g N), .o (nws g N), .no, .no], .inl ?_, d5, g, N, sd, _, _, rfl, w5.mono (by omega), by omega, hG, hS⟩
          show exSs _ _ (dropS l_law_right_47_1 0) ([.o ds2, .no, .o sd, .o (lks g N), .v (.int (0 + (k : Int))), x5, .no, .no, .o (nbs g N), .o (nws g N), .no, .no]) = _
          rw [← ht, exSs_at SA rfl, SB d5 g N sd _ (by omega) hS.len]
  have F : exS (run T (msOf T) (n + 4)) (msOf T) f_law_right_47_1 [.o ds, .no, .o [], .o (lks (fun _ => 0) 0), .no, .no, .no, .no, .o [], .o [], .no, .no] = .nx [.o d3, .no, .o sd, .o (lks g N), x4, x5, .no, .no, .o (nbs g N), .o (nws g N), .no, .no] := F
  have hN2 : N ≤ 121 := by omega
  have S3 : exS (run T (msOf T) (n + 4)) (msOf T) (nthS b_law_right_47 3) [.o d3, .no, .o sd, .o (lks g N), x4, x5, .no, .no, .o (nbs g N), .o (nws g N), .no, .no] = .nx [.o d3, .no, .o sd, .o (lks g N), x4, x5, .no, .no, .o (nbs g N), .o (nws g N), .o [], .o []] := by
    generalize lks g N = Z at *
    generalize nws g N = X at *
    generalize nbs g N = Y at *
    simp [nthS, b_law_right_47, exS.eq_1, exS.eq_2, exS.eq_3, exS.eq_4, exS.eq_5, exS.eq_6, exS.eq_7, exS.eq_8, exS.eq_9, exS.eq_12, exS.eq_13, exS.eq_14, exS.eq_15, exS.eq_16, exS.eq_17, exS.eq_18, exS.eq_19, exS.eq_20, exS.eq_21, exS.eq_22, evE.eq_1, evE.eq_2, evE.eq_3, evE.eq_4, evE.eq_5, evE.eq_6, evE.eq_7, evE.eq_8, evE.eq_9, evE.eq_10, evE.eq_11, evE.eq_12, evE.eq_13, evE.eq_14, evE.eq_15, evE.eq_16, evE.eq_17, evE.eq_18, evE.eq_19, evE.eq_20, evE.eq_21, evE.eq_22, evE.eq_23, evE.eq_24, evE.eq_30, evE.eq_31, evE.eq_32, evE.eq_33, evE.eq_35, evE.eq_36, evE.eq_37, evE.eq_38, evE.eq_39, evE.eq_41, evE.eq_42, evE.eq_43, evE.eq_44, evE.eq_45, evB, evJ, evTs, evI, outR, rngOf, itOf, mtTy, solid, puts, rvtOf, chsOf, slpD, isbD, newOk, setOs]
  have R2 : rngOk 0 (N : Int) = true := rngOk_of (by omega) (by omega) (by omega) (by omega)
  have l1 : sd.length = N := hS.len
  have y1 : nws g 0 = [] := rfl
  have y2 : nbs g 0 = [] := rfl
  have I0 : ∀ a b : D, ixD (.tuple [a, b]) (.int 0) = some (.v a) := fun _ _ => rfl
  have I1 : ∀ a b : D, ixD (.tuple [a, b]) (.int 1) = some (.v b) := fun _ _ => rfl
  obtain ⟨e', F2, x7, rfl⟩ := ev_for_rng (Φ := run T (msOf T) (n + 4)) (ms := msOf T) (s := .rng (.cons (.bi .len (.cons (.var 2) (.nil))) (.nil))) (i := 7) (b := l_law_right_47_2)
    (e := [.o d3, .no, .o sd, .o (lks g N), x4, x5, .no, .no, .o (nbs g N), .o (nws g N), .o (nbs g 0), .o (nws g 0)]) (e1 := [.o d3, .no, .o sd, .o (lks g N), x4, x5, .no, .no, .o (nbs g N), .o (nws g N), .o (nbs g 0), .o (nws g 0)])
    (lo := 0) (n := N) (fun k e => ∃ x7, e = [.o d3, .no, .o sd, .o (lks g N), x4, x5, .no, x7, .o (nbs g N), .o (nws g N), .o (nbs g k), .o (nws g k)]) (by simp [exS.eq_1, exS.eq_2, exS.eq_3, exS.eq_4, exS.eq_5, exS.eq_6, exS.eq_7, exS.eq_8, exS.eq_9, exS.eq_12, exS.eq_13, exS.eq_14, exS.eq_15, exS.eq_16, exS.eq_17, exS.eq_18, exS.eq_19, exS.eq_20, exS.eq_21, exS.eq_22, evE.eq_1, evE.eq_2, evE.eq_3, evE.eq_4, evE.eq_5, evE.eq_6, evE.eq_7, evE.eq_8, evE.eq_9, evE.eq_10, evE.eq_11, evE.eq_12, evE.eq_13, evE.eq_14, evE.eq_15, evE.eq_16, evE.eq_17, evE.eq_18, evE.eq_19, evE.eq_20, evE.eq_21, evE.eq_22, evE.eq_23, evE.eq_24, evE.eq_30, evE.eq_31, evE.eq_32, evE.eq_33, evE.eq_35, evE.eq_36, evE.eq_37, evE.eq_38, evE.eq_39, evE.eq_41, evE.eq_42, evE.eq_43, evE.eq_44, evE.eq_45, evB, evJ, evTs, evI, outR, rngOf, itOf, mtTy, solid, puts, rvtOf, chsOf, slpD, isbD, newOk, setOs, l1, R2]) ⟨_, rfl⟩ fun k e hk he => by
      obtain ⟨x7, rfl⟩ := he
      have hz : sd[k]? = some (sd[k]'(by omega)) := List.getElem?_eq_getElem (by omega)
      obtain ⟨w, v, e, P⟩ := hS.tk k _ hz
      rw [e] at hz
      have I := ix5 hz
      have Lo := look_run (n := n + 1) h.law_look (g := g) (N := k + 1) (by omega)
      have I2 := lks_at (g := g) (N := N) (k := k + 1) (by omega)
      have q := @lk_eq' g (k + 1)
      refine ⟨[.o d3, .no, .o sd, .o (lks g N), x4, x5, .no, .v (.int (0 + (k : Int))), .o (nbs g N), .o (nws g N), .o (nbs g (k + 1)), .o (nws g (k + 1))], .inl ?_, _, rfl⟩
      rw [Int.zero_add]
      simp only [Int.natCast_add, Int.cast_ofNat_Int] at I2
      generalize lks g N = Z at *
      generalize lk g (k + 1) = Kx at *
      generalize nws g N = X at *
      generalize nbs g N = Y at *
      generalize nws g k = Xk at *
      generalize nbs g k = Yk at *
      generalize nws g (k + 1) = Xj at *
      generalize nbs g (k + 1) = Yj at *
      simp [l_law_right_47_2, exS.eq_1, exS.eq_2, exS.eq_3, exS.eq_4, exS.eq_5, exS.eq_6, exS.eq_7, exS.eq_8, exS.eq_9, exS.eq_12, exS.eq_13, exS.eq_14, exS.eq_15, exS.eq_16, exS.eq_17, exS.eq_18, exS.eq_19, exS.eq_20, exS.eq_21, exS.eq_22, evE.eq_1, evE.eq_2, evE.eq_3, evE.eq_4, evE.eq_5, evE.eq_6, evE.eq_7, evE.eq_8, evE.eq_9, evE.eq_10, evE.eq_11, evE.eq_12, evE.eq_13, evE.eq_14, evE.eq_15, evE.eq_16, evE.eq_17, evE.eq_18, evE.eq_19, evE.eq_20, evE.eq_21, evE.eq_22, evE.eq_23, evE.eq_24, evE.eq_30, evE.eq_31, evE.eq_32, evE.eq_33, evE.eq_35, evE.eq_36, evE.eq_37, evE.eq_38, evE.eq_39, evE.eq_41, evE.eq_42, evE.eq_43, evE.eq_44, evE.eq_45, evB, evJ, evTs, evI, outR, rngOf, itOf, mtTy, solid, puts, rvtOf, chsOf, slpD, isbD, newOk, setOs, evE.eq_25, evE.eq_26, evE.eq_28, evE.eq_29, evE.eq_40, evE.eq_46, allO, qArgs, qFin, callB, callV, prep, avs, lent, finOk, putB, backR, permd, cvR, flatC, atomD, h.law_done.ms, h.law_look.ms, I, I0, I1, P, Lo, I2, q]
  have F2 : exS (run T (msOf T) (n + 4)) (msOf T) f_law_right_47_2 [.o d3, .no, .o sd, .o (lks g N), x4, x5, .no, .no, .o (nbs g N), .o (nws g N), .o [], .o []] = .nx [.o d3, .no, .o sd, .o (lks g N), x4, x5, .no, x7, .o (nbs g N), .o (nws g N), .o (nbs g N), .o (nws g N)] := F2
  have Un := undone_run (n := n) h.law_all_undone (g := g) (N := N) (by omega)
  have Lo := look_run (n := n + 1) h.law_look (g := g) (N := N) (by omega)
  have Il := @lks_last g N
  have q := @lk_eq' g N
  have S5 : exS (run T (msOf T) (n + 4)) (msOf T) (nthS b_law_right_47 5) [.o d3, .no, .o sd, .o (lks g N), x4, x5, .no, x7, .o (nbs g N), .o (nws g N), .o (nbs g N), .o (nws g N)] = .nx [.o d3, .no, .o sd, .o (lks g N), x4, x5, .no, x7, .o [], .o [], .o (nbs g N), .o (nws g N)] := by
    generalize lks g N = Z at *
    generalize lk g N = Kx at *
    generalize nws g N = X at *
    generalize nbs g N = Y at *
    simp [nthS, b_law_right_47, exS.eq_1, exS.eq_2, exS.eq_3, exS.eq_4, exS.eq_5, exS.eq_6, exS.eq_7, exS.eq_8, exS.eq_9, exS.eq_12, exS.eq_13, exS.eq_14, exS.eq_15, exS.eq_16, exS.eq_17, exS.eq_18, exS.eq_19, exS.eq_20, exS.eq_21, exS.eq_22, evE.eq_1, evE.eq_2, evE.eq_3, evE.eq_4, evE.eq_5, evE.eq_6, evE.eq_7, evE.eq_8, evE.eq_9, evE.eq_10, evE.eq_11, evE.eq_12, evE.eq_13, evE.eq_14, evE.eq_15, evE.eq_16, evE.eq_17, evE.eq_18, evE.eq_19, evE.eq_20, evE.eq_21, evE.eq_22, evE.eq_23, evE.eq_24, evE.eq_30, evE.eq_31, evE.eq_32, evE.eq_33, evE.eq_35, evE.eq_36, evE.eq_37, evE.eq_38, evE.eq_39, evE.eq_41, evE.eq_42, evE.eq_43, evE.eq_44, evE.eq_45, evB, evJ, evTs, evI, outR, rngOf, itOf, mtTy, solid, puts, rvtOf, chsOf, slpD, isbD, newOk, setOs, evE.eq_25, evE.eq_26, evE.eq_28, evE.eq_29, evE.eq_40, evE.eq_46, allO, qArgs, qFin, callB, callV, prep, avs, lent, finOk, putB, backR, permd, cvR, flatC, atomD, h.law_all_undone.ms, h.law_look.ms, Un, Lo, Il, q]
  obtain ⟨e', F3, x5', rfl⟩ := ev_for_own (Φ := run T (msOf T) (n + 4)) (ms := msOf T) (s := .it false true (.var 2)) (i := 5) (j := 2) (b := l_law_right_47_3) (e := [.o d3, .no, .o sd, .o (lks g N), x4, x5, .no, x7, .o (nbs g 0), .o (nws g 0), .o (nbs g N), .o (nws g N)]) (e1 := [.o d3, .no, .o sd, .o (lks g N), x4, x5, .no, x7, .o (nbs g 0), .o (nws g 0), .o (nbs g N), .o (nws g N)]) (ds := sd)
    (fun k e => ∃ x5, e = [.o d3, .no, .no, .o (lks g N), x4, x5, .no, x7, .o (nbs g k), .o (nws g k), .o (nbs g N), .o (nws g N)]) (by simp [exS.eq_1, exS.eq_2, exS.eq_3, exS.eq_4, exS.eq_5, exS.eq_6, exS.eq_7, exS.eq_8, exS.eq_9, exS.eq_12, exS.eq_13, exS.eq_14, exS.eq_15, exS.eq_16, exS.eq_17, exS.eq_18, exS.eq_19, exS.eq_20, exS.eq_21, exS.eq_22, evE.eq_1, evE.eq_2, evE.eq_3, evE.eq_4, evE.eq_5, evE.eq_6, evE.eq_7, evE.eq_8, evE.eq_9, evE.eq_10, evE.eq_11, evE.eq_12, evE.eq_13, evE.eq_14, evE.eq_15, evE.eq_16, evE.eq_17, evE.eq_18, evE.eq_19, evE.eq_20, evE.eq_21, evE.eq_22, evE.eq_23, evE.eq_24, evE.eq_30, evE.eq_31, evE.eq_32, evE.eq_33, evE.eq_35, evE.eq_36, evE.eq_37, evE.eq_38, evE.eq_39, evE.eq_41, evE.eq_42, evE.eq_43, evE.eq_44, evE.eq_45, evB, evJ, evTs, evI, outR, rngOf, itOf, mtTy, solid, puts, rvtOf, chsOf, slpD, isbD, newOk, setOs]) ⟨_, rfl⟩ fun k x e hx he => by
      obtain ⟨x5, rfl⟩ := he
      obtain ⟨w, v, rfl, P⟩ := hS.tk k x hx
      refine ⟨[.o d3, .no, .no, .o (lks g N), x4, .v (.tuple [.int w, .int v]), .no, x7, .o (nbs g (k + 1)), .o (nws g (k + 1)), .o (nbs g N), .o (nws g N)], .inl ?_, _, rfl⟩
      generalize lks g N = Z at *
      generalize nws g N = X at *
      generalize nbs g N = Y at *
      generalize nws g k = Xk at *
      generalize nbs g k = Yk at *
      generalize nws g (k + 1) = Xj at *
      generalize nbs g (k + 1) = Yj at *
      simp [l_law_right_47_3, exS.eq_1, exS.eq_2, exS.eq_3, exS.eq_4, exS.eq_5, exS.eq_6, exS.eq_7, exS.eq_8, exS.eq_9, exS.eq_12, exS.eq_13, exS.eq_14, exS.eq_15, exS.eq_16, exS.eq_17, exS.eq_18, exS.eq_19, exS.eq_20, exS.eq_21, exS.eq_22, evE.eq_1, evE.eq_2, evE.eq_3, evE.eq_4, evE.eq_5, evE.eq_6, evE.eq_7, evE.eq_8, evE.eq_9, evE.eq_10, evE.eq_11, evE.eq_12, evE.eq_13, evE.eq_14, evE.eq_15, evE.eq_16, evE.eq_17, evE.eq_18, evE.eq_19, evE.eq_20, evE.eq_21, evE.eq_22, evE.eq_23, evE.eq_24, evE.eq_30, evE.eq_31, evE.eq_32, evE.eq_33, evE.eq_35, evE.eq_36, evE.eq_37, evE.eq_38, evE.eq_39, evE.eq_41, evE.eq_42, evE.eq_43, evE.eq_44, evE.eq_45, evB, evJ, evTs, evI, outR, rngOf, itOf, mtTy, solid, puts, rvtOf, chsOf, slpD, isbD, newOk, setOs, evE.eq_25, evE.eq_26, evE.eq_28, evE.eq_29, evE.eq_40, evE.eq_46, allO, qArgs, qFin, callB, callV, prep, avs, lent, finOk, putB, backR, permd, cvR, flatC, atomD, h.law_done.ms, I0, I1, P]
  have F3 : exS (run T (msOf T) (n + 4)) (msOf T) f_law_right_47_3 [.o d3, .no, .o sd, .o (lks g N), x4, x5, .no, x7, .o [], .o [], .o (nbs g N), .o (nws g N)] = .nx [.o d3, .no, .o sd, .o (lks g N), x4, x5', .no, x7, .o (nbs g N), .o (nws g N), .o (nbs g N), .o (nws g N)] := by
    rw [l1] at F3
    exact F3
  have S7 : exS (run T (msOf T) (n + 4)) (msOf T) (nthS b_law_right_47 7) [.o d3, .no, .o sd, .o (lks g N), x4, x5', .no, x7, .o (nbs g N), .o (nws g N), .o (nbs g N), .o (nws g N)] = .rt (.v (.bool true)) [.o d3, .no, .o sd, .o (lks g N), x4, x5', .no, x7, .o (nbs g N), .o (nws g N), .o [], .o []] := by
    generalize lks g N = Z at *
    generalize lk g N = Kx at *
    generalize nws g N = X at *
    generalize nbs g N = Y at *
    simp [nthS, b_law_right_47, exS.eq_1, exS.eq_2, exS.eq_3, exS.eq_4, exS.eq_5, exS.eq_6, exS.eq_7, exS.eq_8, exS.eq_9, exS.eq_12, exS.eq_13, exS.eq_14, exS.eq_15, exS.eq_16, exS.eq_17, exS.eq_18, exS.eq_19, exS.eq_20, exS.eq_21, exS.eq_22, evE.eq_1, evE.eq_2, evE.eq_3, evE.eq_4, evE.eq_5, evE.eq_6, evE.eq_7, evE.eq_8, evE.eq_9, evE.eq_10, evE.eq_11, evE.eq_12, evE.eq_13, evE.eq_14, evE.eq_15, evE.eq_16, evE.eq_17, evE.eq_18, evE.eq_19, evE.eq_20, evE.eq_21, evE.eq_22, evE.eq_23, evE.eq_24, evE.eq_30, evE.eq_31, evE.eq_32, evE.eq_33, evE.eq_35, evE.eq_36, evE.eq_37, evE.eq_38, evE.eq_39, evE.eq_41, evE.eq_42, evE.eq_43, evE.eq_44, evE.eq_45, evB, evJ, evTs, evI, outR, rngOf, itOf, mtTy, solid, puts, rvtOf, chsOf, slpD, isbD, newOk, setOs, evE.eq_25, evE.eq_26, evE.eq_28, evE.eq_29, evE.eq_40, evE.eq_46, allO, qArgs, qFin, callB, callV, prep, avs, lent, finOk, putB, backR, permd, cvR, flatC, atomD, h.law_all_undone.ms, h.law_look.ms, Un, Lo, Il, q]
  refine ⟨d3, ?_⟩
  have E : exSs (run T (msOf T) (n + 4)) (msOf T) b_law_right_47 [.o ds, .no, .no, .no, .no, .no, .no, .no, .no, .no, .no, .no] = .rt (.v (.bool true)) [.o d3, .no, .o sd, .o (lks g N), x4, x5', .no, x7, .o (nbs g N), .o (nws g N), .o [], .o []] := by
    show exSs _ _ (dropS b_law_right_47 0) _ = _
    rw [exSs_at S0 rfl, exSs_at S1 rfl, exSs_at (k := 2) F rfl, exSs_at S3 rfl, exSs_at (k := 4) F2 rfl, exSs_at S5 rfl, exSs_at (k := 6) F3 rfl, exSs_rt S7 rfl]
  rw [h.go]
  generalize lks g N = Z at *
  generalize nws g N = X at *
  generalize nbs g N = Y at *
  simp [runDf, d_law_right_47, List.replicate, inits, E, endR, finL, fins, outR]
end
end Vc
end
section
set_option Elab.async false
set_option linter.all false
set_option maxRecDepth 100000
set_option exponentiation.threshold 1000
namespace Vc
open PySem PySem.Spec PyProof.Rows L2
section
variable {T : Nat → Option Df} {n : Nat}
theorem deep_run (h : H_law_deep_right T) {ds : List D} {W : Nat} (hw : Wl W ds) (hW : W + 5 < 2 ^ 60) : ∃ ds', run T (msOf T) (n + 5) i_law_deep_right [.m ds] = .rt (.v (.bool true)) [.o ds'] := by
  have Dw := draws (n := n + 3) h.law_draw.h
  obtain ⟨m, d1, E1, m0, m1, w1⟩ := Dw W ds 7 hw (by omega) (by decide) (.of' (by decide) (by decide))
  have z1 : nws (fun _ => 0) 0 = [] := rfl
  have z2 : nbs (fun _ => 0) 0 = [] := rfl
  have z3 : lks (fun _ => 0) 0 = [lk (fun _ => 0) 0] := rfl
  have L0 := look_run (n := n + 1) h.law_look (g := fun _ => 0) (N := 0) (by omega)
  rw [z1, z2] at L0
  have S0 : exS (run T (msOf T) (n + 4)) (msOf T) (nthS b_law_deep_right 0) [.o ds, .no, .no, .no, .no, .no, .no] = .nx [.o d1, .no, .v (.int m), .no, .no, .o [], .o []] := by
    simp [nthS, b_law_deep_right, exS.eq_1, exS.eq_2, exS.eq_3, exS.eq_4, exS.eq_5, exS.eq_6, exS.eq_7, exS.eq_8, exS.eq_9, exS.eq_12, exS.eq_13, exS.eq_14, exS.eq_15, exS.eq_16, exS.eq_17, exS.eq_18, exS.eq_19, exS.eq_20, exS.eq_21, exS.eq_22, evE.eq_1, evE.eq_2, evE.eq_3, evE.eq_4, evE.eq_5, evE.eq_6, evE.eq_7, evE.eq_8, evE.eq_9, evE.eq_10, evE.eq_11, evE.eq_12, evE.eq_13, evE.eq_14, evE.eq_15, evE.eq_16, evE.eq_17, evE.eq_18, evE.eq_19, evE.eq_20, evE.eq_21, evE.eq_22, evE.eq_23, evE.eq_24, evE.eq_30, evE.eq_31, evE.eq_32, evE.eq_33, evE.eq_35, evE.eq_36, evE.eq_37, evE.eq_38, evE.eq_39, evE.eq_41, evE.eq_42, evE.eq_43, evE.eq_44, evE.eq_45, evB, evJ, evTs, evI, outR, rngOf, itOf, mtTy, solid, puts, rvtOf, chsOf, slpD, isbD, newOk, setOs, evE.eq_25, evE.eq_26, evE.eq_28, evE.eq_29, evE.eq_40, evE.eq_46, allO, qArgs, qFin, callB, callV, prep, avs, lent, finOk, putB, backR, permd, cvR, flatC, atomD, h.law_draw.ms, E1]
  have S1 : exS (run T (msOf T) (n + 4)) (msOf T) (nthS b_law_deep_right 1) [.o d1, .no, .v (.int m), .no, .no, .o [], .o []] = .nx [.o d1, .no, .v (.int m), .o (lks (fun _ => 0) 0), .no, .o [], .o []] := by
    rw [z3]
    generalize lk (fun _ => 0) 0 = K0 at *
    simp [nthS, b_law_deep_right, exS.eq_1, exS.eq_2, exS.eq_3, exS.eq_4, exS.eq_5, exS.eq_6, exS.eq_7, exS.eq_8, exS.eq_9, exS.eq_12, exS.eq_13, exS.eq_14, exS.eq_15, exS.eq_16, exS.eq_17, exS.eq_18, exS.eq_19, exS.eq_20, exS.eq_21, exS.eq_22, evE.eq_1, evE.eq_2, evE.eq_3, evE.eq_4, evE.eq_5, evE.eq_6, evE.eq_7, evE.eq_8, evE.eq_9, evE.eq_10, evE.eq_11, evE.eq_12, evE.eq_13, evE.eq_14, evE.eq_15, evE.eq_16, evE.eq_17, evE.eq_18, evE.eq_19, evE.eq_20, evE.eq_21, evE.eq_22, evE.eq_23, evE.eq_24, evE.eq_30, evE.eq_31, evE.eq_32, evE.eq_33, evE.eq_35, evE.eq_36, evE.eq_37, evE.eq_38, evE.eq_39, evE.eq_41, evE.eq_42, evE.eq_43, evE.eq_44, evE.eq_45, evB, evJ, evTs, evI, outR, rngOf, itOf, mtTy, solid, puts, rvtOf, chsOf, slpD, isbD, newOk, setOs, evE.eq_25, evE.eq_26, evE.eq_28, evE.eq_29, evE.eq_40, evE.eq_46, allO, qArgs, qFin, callB, callV, prep, avs, lent, finOk, putB, backR, permd, cvR, flatC, atomD, h.law_look.ms, L0]
  have R : rngOk 0 190 = true := rngOk_of (by omega) (by omega) (by omega) (by omega)
  obtain ⟨e', F, g, x4, rfl⟩ := ev_for_rng (Φ := run T (msOf T) (n + 4)) (ms := msOf T) (s := .rng (.cons (.int 190) (.nil))) (i := 4) (b := l_law_deep_right_1) (e := [.o d1, .no, .v (.int m), .o (lks (fun _ => 0) 0), .no, .o [], .o []]) (e1 := [.o d1, .no, .v (.int m), .o (lks (fun _ => 0) 0), .no, .o [], .o []])
    (lo := 0) (n := 190) (fun k e => ∃ g x4, e = [.o d1, .no, .v (.int m), .o (lks g k), x4, .o (nbs g k), .o (nws g k)]) (by simp [exS.eq_1, exS.eq_2, exS.eq_3, exS.eq_4, exS.eq_5, exS.eq_6, exS.eq_7, exS.eq_8, exS.eq_9, exS.eq_12, exS.eq_13, exS.eq_14, exS.eq_15, exS.eq_16, exS.eq_17, exS.eq_18, exS.eq_19, exS.eq_20, exS.eq_21, exS.eq_22, evE.eq_1, evE.eq_2, evE.eq_3, evE.eq_4, evE.eq_5, evE.eq_6, evE.eq_7, evE.eq_8, evE.eq_9, evE.eq_10, evE.eq_11, evE.eq_12, evE.eq_13, evE.eq_14, evE.eq_15, evE.eq_16, evE.eq_17, evE.eq_18, evE.eq_19, evE.eq_20, evE.eq_21, evE.eq_22, evE.eq_23, evE.eq_24, evE.eq_30, evE.eq_31, evE.eq_32, evE.eq_33, evE.eq_35, evE.eq_36, evE.eq_37, evE.eq_38, evE.eq_39, evE.eq_41, evE.eq_42, evE.eq_43, evE.eq_44, evE.eq_45, evB, evJ, evTs, evI, outR, rngOf, itOf, mtTy, solid, puts, rvtOf, chsOf, slpD, isbD, newOk, setOs, R]) ⟨fun _ => 0, _, rfl⟩ fun k e hk he => by
      obtain ⟨g, x4, rfl⟩ := he
      have mk : mulOk (k : Int) (k : Int) = true := mulOk_of (m := 20) (n := 20) (.of' (by omega) (by omega)) (.of' (by omega) (by omega)) (by decide)
      obtain ⟨c, hc⟩ : ∃ c, c = ((k : Int) * k + m) % 3 := ⟨_, rfl⟩
      have c0 : 0 ≤ c ∧ c < 3 := by rw [hc]; omega
      have P := lay_ok (n := n + 1) h.Live_lay (g := g) (N := k) (c := c) (by omega) c0.1 (Bd.mono (m := 20) (.of' c0.1 (by omega)) (by decide))
      have Lo := look_run (n := n + 1) h.law_look (g := up g k (c * ((k : Int) + 1))) (N := k + 1) (by omega)
      have l2 : (lks g k).length < 16777216 := by rw [lks_len]; omega
      refine ⟨[.o d1, .no, .v (.int m), .o (lks (up g k (c * ((k : Int) + 1))) (k + 1)), .v (.int (0 + (k : Int))), .o (nbs (up g k (c * ((k : Int) + 1))) (k + 1)), .o (nws (up g k (c * ((k : Int) + 1))) (k + 1))], .inl ?_, _, _, rfl⟩
      rw [lks_up, Int.zero_add]
      generalize lks g k = Z at *
      generalize lk (up g k (c * ((k : Int) + 1))) (k + 1) = Kx at *
      generalize nws g k = Xk at *
      generalize nbs g k = Yk at *
      generalize nws (up g k (c * ((k : Int) + 1))) (k + 1) = Xj at *
      generalize nbs (up g k (c * ((k : Int) + 1))) (k + 1) = Yj at *
      simp [l_law_deep_right_1, exS.eq_1, exS.eq_2, exS.eq_3, exS.eq_4, exS.eq_5, exS.eq_6, exS.eq_7, exS.eq_8, exS.eq_9, exS.eq_12, exS.eq_13, exS.eq_14, exS.eq_15, exS.eq_16, exS.eq_17, exS.eq_18, exS.eq_19, exS.eq_20, exS.eq_21, exS.eq_22, evE.eq_1, evE.eq_2, evE.eq_3, evE.eq_4, evE.eq_5, evE.eq_6, evE.eq_7, evE.eq_8, evE.eq_9, evE.eq_10, evE.eq_11, evE.eq_12, evE.eq_13, evE.eq_14, evE.eq_15, evE.eq_16, evE.eq_17, evE.eq_18, evE.eq_19, evE.eq_20, evE.eq_21, evE.eq_22, evE.eq_23, evE.eq_24, evE.eq_30, evE.eq_31, evE.eq_32, evE.eq_33, evE.eq_35, evE.eq_36, evE.eq_37, evE.eq_38, evE.eq_39, evE.eq_41, evE.eq_42, evE.eq_43, evE.eq_44, evE.eq_45, evB, evJ, evTs, evI, outR, rngOf, itOf, mtTy, solid, puts, rvtOf, chsOf, slpD, isbD, newOk, setOs, evE.eq_25, evE.eq_26, evE.eq_28, evE.eq_29, evE.eq_40, evE.eq_46, allO, qArgs, qFin, callB, callV, prep, avs, lent, finOk, putB, backR, permd, cvR, flatC, atomD, h.Live_lay.ms, h.law_look.ms, mk, ← hc, P, Lo, l2]
  have F : exS (run T (msOf T) (n + 4)) (msOf T) f_law_deep_right_1 [.o d1, .no, .v (.int m), .o (lks (fun _ => 0) 0), .no, .o [], .o []] = .nx [.o d1, .no, .v (.int m), .o (lks g 190), x4, .o (nbs g 190), .o (nws g 190)] := F
  have Un := undone_run (n := n) h.law_all_undone (g := g) (N := 190) (by omega)
  have S3 : exS (run T (msOf T) (n + 4)) (msOf T) (nthS b_law_deep_right 3) [.o d1, .no, .v (.int m), .o (lks g 190), x4, .o (nbs g 190), .o (nws g 190)] = .rt (.v (.bool true)) [.o d1, .no, .v (.int m), .o (lks g 190), x4, .o [], .o []] := by
    generalize lks g 190 = Z at *
    generalize nws g 190 = X at *
    generalize nbs g 190 = Y at *
    simp [nthS, b_law_deep_right, exS.eq_1, exS.eq_2, exS.eq_3, exS.eq_4, exS.eq_5, exS.eq_6, exS.eq_7, exS.eq_8, exS.eq_9, exS.eq_12, exS.eq_13, exS.eq_14, exS.eq_15, exS.eq_16, exS.eq_17, exS.eq_18, exS.eq_19, exS.eq_20, exS.eq_21, exS.eq_22, evE.eq_1, evE.eq_2, evE.eq_3, evE.eq_4, evE.eq_5, evE.eq_6, evE.eq_7, evE.eq_8, evE.eq_9, evE.eq_10, evE.eq_11, evE.eq_12, evE.eq_13, evE.eq_14, evE.eq_15, evE.eq_16, evE.eq_17, evE.eq_18, evE.eq_19, evE.eq_20, evE.eq_21, evE.eq_22, evE.eq_23, evE.eq_24, evE.eq_30, evE.eq_31, evE.eq_32, evE.eq_33, evE.eq_35, evE.eq_36, evE.eq_37, evE.eq_38, evE.eq_39, evE.eq_41, evE.eq_42, evE.eq_43, evE.eq_44, evE.eq_45, evB, evJ, evTs, evI, outR, rngOf, itOf, mtTy, solid, puts, rvtOf, chsOf, slpD, isbD, newOk, setOs, evE.eq_25, evE.eq_26, evE.eq_28, evE.eq_29, evE.eq_40, evE.eq_46, allO, qArgs, qFin, callB, callV, prep, avs, lent, finOk, putB, backR, permd, cvR, flatC, atomD, h.law_all_undone.ms, Un]
  refine ⟨d1, ?_⟩
  have E : exSs (run T (msOf T) (n + 4)) (msOf T) b_law_deep_right [.o ds, .no, .no, .no, .no, .no, .no] = .rt (.v (.bool true)) [.o d1, .no, .v (.int m), .o (lks g 190), x4, .o [], .o []] := by
    show exSs _ _ (dropS b_law_deep_right 0) _ = _
    rw [exSs_at S0 rfl, exSs_at S1 rfl, exSs_at (k := 2) F rfl, exSs_rt S3 rfl]
  rw [h.go]
  generalize lks g 190 = Z at *
  simp [runDf, d_law_deep_right, List.replicate, inits, E, endR, finL, fins, outR]
theorem law73_run (h : H_law_50 T) {ns : List Int} (hl : ns.length ≤ 63) : run T (msOf T) (n + 6) i_law_50 [.f (il ns)] = .rt (.v (.bool true)) [.no] := by
  have R : rngOk 0 (max 1 (min 3 ns.length)) = true := rngOk_of (by omega) (by omega) (by omega) (by omega)
  obtain ⟨e', F, x1, rfl⟩ := ev_for_rng (Φ := run T (msOf T) (n + 5)) (ms := msOf T) (s := .rng (.cons (.bi .max (.cons (.int 1) (.cons (.bi .min (.cons (.int 3) (.cons (.bi .len (.cons (.var 0) (.nil))) (.nil)))) (.nil)))) (.nil))) (i := 1) (b := l_law_50_1) (e := [.f (il ns), .no, .no]) (e1 := [.f (il ns), .no, .no])
    (lo := 0) (n := (max 1 (min 3 (ns.length : Int))).toNat) (fun k e => ∃ x, e = [.f (il ns), x, .no]) (by simp [exS.eq_1, exS.eq_2, exS.eq_3, exS.eq_4, exS.eq_5, exS.eq_6, exS.eq_7, exS.eq_8, exS.eq_9, exS.eq_12, exS.eq_13, exS.eq_14, exS.eq_15, exS.eq_16, exS.eq_17, exS.eq_18, exS.eq_19, exS.eq_20, exS.eq_21, exS.eq_22, evE.eq_1, evE.eq_2, evE.eq_3, evE.eq_4, evE.eq_5, evE.eq_6, evE.eq_7, evE.eq_8, evE.eq_9, evE.eq_10, evE.eq_11, evE.eq_12, evE.eq_13, evE.eq_14, evE.eq_15, evE.eq_16, evE.eq_17, evE.eq_18, evE.eq_19, evE.eq_20, evE.eq_21, evE.eq_22, evE.eq_23, evE.eq_24, evE.eq_30, evE.eq_31, evE.eq_32, evE.eq_33, evE.eq_35, evE.eq_36, evE.eq_37, evE.eq_38, evE.eq_39, evE.eq_41, evE.eq_42, evE.eq_43, evE.eq_44, evE.eq_45, evB, evJ, evTs, evI, outR, rngOf, itOf, mtTy, solid, puts, rvtOf, chsOf, slpD, isbD, newOk, setOs, R]) ⟨_, rfl⟩ fun k e hk he => by
      obtain ⟨x, rfl⟩ := he
      obtain ⟨ds, E1, w1⟩ := wellO_run (n := n + 4) h.law_well (ns := ns) (k := (k : Int)) (by omega) (by omega)
      obtain ⟨ds', P⟩ := right47_run (n := n) h.law_right_47 w1
      refine ⟨[.f (il ns), .v (.int (0 + (k : Int))), .no], .inl ?_, _, rfl⟩
      rw [Int.zero_add]
      generalize il ns = S at *
      simp [l_law_50_1, exS.eq_1, exS.eq_2, exS.eq_3, exS.eq_4, exS.eq_5, exS.eq_6, exS.eq_7, exS.eq_8, exS.eq_9, exS.eq_12, exS.eq_13, exS.eq_14, exS.eq_15, exS.eq_16, exS.eq_17, exS.eq_18, exS.eq_19, exS.eq_20, exS.eq_21, exS.eq_22, evE.eq_1, evE.eq_2, evE.eq_3, evE.eq_4, evE.eq_5, evE.eq_6, evE.eq_7, evE.eq_8, evE.eq_9, evE.eq_10, evE.eq_11, evE.eq_12, evE.eq_13, evE.eq_14, evE.eq_15, evE.eq_16, evE.eq_17, evE.eq_18, evE.eq_19, evE.eq_20, evE.eq_21, evE.eq_22, evE.eq_23, evE.eq_24, evE.eq_30, evE.eq_31, evE.eq_32, evE.eq_33, evE.eq_35, evE.eq_36, evE.eq_37, evE.eq_38, evE.eq_39, evE.eq_41, evE.eq_42, evE.eq_43, evE.eq_44, evE.eq_45, evB, evJ, evTs, evI, outR, rngOf, itOf, mtTy, solid, puts, rvtOf, chsOf, slpD, isbD, newOk, setOs, evE.eq_25, evE.eq_26, evE.eq_28, evE.eq_29, evE.eq_40, evE.eq_46, allO, qArgs, qFin, callB, callV, prep, avs, lent, finOk, putB, backR, permd, cvR, flatC, atomD, h.law_well.ms, h.law_right_47.ms, E1, P]
  have F : exS (run T (msOf T) (n + 5)) (msOf T) f_law_50_1 [.f (il ns), .no, .no] = .nx [.f (il ns), x1, .no] := F
  obtain ⟨ds, E1, w1⟩ := wellO_run (n := n + 4) h.law_well (ns := ns) (k := 0) (by omega) (by omega)
  have Dw := draws (n := n + 4) h.law_draw.h
  obtain ⟨a, d1, E2, a0, a1, w2⟩ := Dw 0 ds 2 w1 (by omega) (by decide) (.of' (by decide) (by decide))
  obtain ⟨d2, P⟩ := deep_run (n := n) h.law_deep_right w2 (by omega)
  rw [h.go]
  generalize il ns = S at *
  by_cases ha : a = 0
  · subst ha
    simp [runDf, d_law_50, b_law_50, List.replicate]
    simp [exS.eq_1, exS.eq_2, exS.eq_3, exS.eq_4, exS.eq_5, exS.eq_6, exS.eq_7, exS.eq_8, exS.eq_9, exS.eq_12, exS.eq_13, exS.eq_14, exS.eq_15, exS.eq_16, exS.eq_17, exS.eq_18, exS.eq_19, exS.eq_20, exS.eq_21, exS.eq_22, evE.eq_1, evE.eq_2, evE.eq_3, evE.eq_4, evE.eq_5, evE.eq_6, evE.eq_7, evE.eq_8, evE.eq_9, evE.eq_10, evE.eq_11, evE.eq_12, evE.eq_13, evE.eq_14, evE.eq_15, evE.eq_16, evE.eq_17, evE.eq_18, evE.eq_19, evE.eq_20, evE.eq_21, evE.eq_22, evE.eq_23, evE.eq_24, evE.eq_30, evE.eq_31, evE.eq_32, evE.eq_33, evE.eq_35, evE.eq_36, evE.eq_37, evE.eq_38, evE.eq_39, evE.eq_41, evE.eq_42, evE.eq_43, evE.eq_44, evE.eq_45, evB, evJ, evTs, evI, outR, rngOf, itOf, mtTy, solid, puts, rvtOf, chsOf, slpD, isbD, newOk, setOs, evE.eq_25, evE.eq_26, evE.eq_28, evE.eq_29, evE.eq_40, evE.eq_46, allO, qArgs, qFin, callB, callV, prep, avs, lent, finOk, putB, backR, permd, cvR, flatC, atomD, h.law_well.ms, h.law_draw.ms, F, E1, E2, inits, slOf, fins, finL]
  · simp [runDf, d_law_50, b_law_50, List.replicate]
    simp [exS.eq_1, exS.eq_2, exS.eq_3, exS.eq_4, exS.eq_5, exS.eq_6, exS.eq_7, exS.eq_8, exS.eq_9, exS.eq_12, exS.eq_13, exS.eq_14, exS.eq_15, exS.eq_16, exS.eq_17, exS.eq_18, exS.eq_19, exS.eq_20, exS.eq_21, exS.eq_22, evE.eq_1, evE.eq_2, evE.eq_3, evE.eq_4, evE.eq_5, evE.eq_6, evE.eq_7, evE.eq_8, evE.eq_9, evE.eq_10, evE.eq_11, evE.eq_12, evE.eq_13, evE.eq_14, evE.eq_15, evE.eq_16, evE.eq_17, evE.eq_18, evE.eq_19, evE.eq_20, evE.eq_21, evE.eq_22, evE.eq_23, evE.eq_24, evE.eq_30, evE.eq_31, evE.eq_32, evE.eq_33, evE.eq_35, evE.eq_36, evE.eq_37, evE.eq_38, evE.eq_39, evE.eq_41, evE.eq_42, evE.eq_43, evE.eq_44, evE.eq_45, evB, evJ, evTs, evI, outR, rngOf, itOf, mtTy, solid, puts, rvtOf, chsOf, slpD, isbD, newOk, setOs, evE.eq_25, evE.eq_26, evE.eq_28, evE.eq_29, evE.eq_40, evE.eq_46, allO, qArgs, qFin, callB, callV, prep, avs, lent, finOk, putB, backR, permd, cvR, flatC, atomD, h.law_well.ms, h.law_draw.ms, h.law_deep_right.ms, F, E1, E2, ha, P, inits, slOf, fins, finL]
end
end Vc
end
section
set_option Elab.async false
set_option linter.all false
set_option maxRecDepth 100000
namespace Vc
open PySem PySem.Spec PyProof.Rows L2
def topS (i : Nat) : Stmt := PySem.Challenge.pw_backafter_k73_whole_live_rows_undone.main.body.getD i (.Pass ⟨0, 0, 0, 0⟩)
def r_Live_row : Rc := ⟨300, "row", (clsAt (topS 11) 6), ["self", "self.numbers", "self.news"], [.q, .m, .m], b_Live_row, ⟨[(0, "numbers", "Live"), (0, "news", "Live")], some ("Live", "Live.row", false), [], []⟩⟩
def r_Live_rings : Rc := ⟨305, "rings", (clsAt (topS 11) 7), ["self", "self.numbers", "self.news", "place", "number"], [.q, .m, .m], b_Live_rings, ⟨[(0, "numbers", "Live"), (0, "news", "Live")], some ("Live", "Live.rings", false), [], []⟩⟩
def r_least_coming : Rc := ⟨302, "least_coming", topS 9, ["news", "size", "place", "number"], [.v], b_least_coming, .no⟩
def r_Live_coming : Rc := ⟨303, "coming", (clsAt (topS 11) 5), ["self", "self.numbers", "self.news"], [.q, .m, .m], b_Live_coming, ⟨[(0, "numbers", "Live"), (0, "news", "Live")], some ("Live", "Live.coming", false), [], []⟩⟩
def r_Live_things : Rc := ⟨307, "things", (clsAt (topS 11) 8), ["self", "self.numbers", "self.news"], [.q, .m, .m], b_Live_things, ⟨[(0, "numbers", "Live"), (0, "news", "Live")], some ("Live", "Live.things", true), [], []⟩⟩
def r_Live___len__ : Rc := ⟨306, "__len__", (clsAt (topS 11) 9), ["self", "self.numbers", "self.news"], [.q, .m, .m], b_Live___len__, ⟨[(0, "numbers", "Live"), (0, "news", "Live")], some ("Live", "Live.__len__", false), [], []⟩⟩
def r_law_look : Rc := ⟨330, "_law_look", topS 15, ["live", "live.numbers", "live.news"], [.q, .m, .m], b_law_look, ⟨[(0, "numbers", "Live"), (0, "news", "Live")], none, [], []⟩⟩
def r_law_draw : Rc := ⟨10, "_law_draw", topS 14, ["well", "many", "found", "stirred"], [.m, .v], b_law_draw, .no⟩
def r_Live_undo : Rc := ⟨314, "undo", (clsAt (topS 11) 4), ["self", "self.numbers", "self.news"], [.q, .m, .m], b_Live_undo, ⟨[(0, "numbers", "Live"), (0, "news", "Live")], some ("Live", "Live.undo", false), [], []⟩⟩
def r_law_drawn_call : Rc := ⟨331, "_law_drawn_call", topS 17, ["well", "live", "live.numbers", "live.news", "told"], [.m, .q, .m, .m], b_law_drawn_call, ⟨[(1, "numbers", "Live"), (1, "news", "Live")], none, [], []⟩⟩
def r_is_whole : Rc := ⟨2, "is_whole", topS 7, ["thing"], [.v], b_is_whole, .no⟩
def r_may_come : Rc := ⟨310, "may_come", topS 10, ["news", "number", "more"], [.v, .v], b_may_come, .no⟩
def r_Live_put : Rc := ⟨311, "put", (clsAt (topS 11) 1), ["self", "number", "self.numbers", "self.news"], [.q, .v, .m, .m], b_Live_put, ⟨[(0, "numbers", "Live"), (0, "news", "Live")], some ("Live", "Live.put", false), [], []⟩⟩
def r_Live_tell : Rc := ⟨312, "tell", (clsAt (topS 11) 2), ["self", "number", "self.numbers", "self.news"], [.q, .v, .m, .m], b_Live_tell, ⟨[(0, "numbers", "Live"), (0, "news", "Live")], some ("Live", "Live.tell", false), [], []⟩⟩
def r_Live_lay : Rc := ⟨313, "lay", (clsAt (topS 11) 3), ["self", "count", "self.numbers", "self.news"], [.q, .v, .m, .m], b_Live_lay, ⟨[(0, "numbers", "Live"), (0, "news", "Live")], some ("Live", "Live.lay", false), [], []⟩⟩
def r_law_done : Rc := ⟨332, "_law_done", topS 16, ["live", "way", "more", "live.numbers", "live.news", "let"], [.q, .v, .v, .m, .m], b_law_done, ⟨[(0, "numbers", "Live"), (0, "news", "Live")], none, [], []⟩⟩
def r_law_all_undone : Rc := ⟨333, "_law_all_undone", topS 18, ["live", "looks", "live.numbers", "live.news", "k", "ended"], [.q, .m, .m, .m], b_law_all_undone, ⟨[(0, "numbers", "Live"), (0, "news", "Live")], none, [], []⟩⟩
def r_law_right_47 : Rc := ⟨334, "_law_right", topS 19, ["well", "live", "standing", "looks", "turn", "call", "again", "k", "live.numbers", "live.news", "again.numbers", "again.news"], [.m], b_law_right_47, ⟨[], none, [(8, 1, "numbers", "Live"), (9, 1, "news", "Live"), (10, 6, "numbers", "Live"), (11, 6, "news", "Live")], [1, 8, 9, 6, 10, 11]⟩⟩
def r_law_well : Rc := ⟨16, "_law_well", topS 13, ["script", "k", "cell"], [.f, .v], b_law_well, .no⟩
def r_law_deep_right : Rc := ⟨335, "_law_deep_right", topS 20, ["well", "deep", "more", "looks", "k", "deep.numbers", "deep.news"], [.m], b_law_deep_right, ⟨[], none, [(5, 1, "numbers", "Live"), (6, 1, "news", "Live")], [1, 5, 6]⟩⟩
def r_law_50 : Rc := ⟨336, "law", topS 21, ["script", "k", "well"], [.f], b_law_50, .no⟩
def Tb : List Rc := [r_Live_row, r_Live_rings, r_least_coming, r_Live_coming, r_Live_things, r_Live___len__, r_law_look, r_law_draw, r_Live_undo, r_law_drawn_call, r_is_whole, r_may_come, r_Live_put, r_Live_tell, r_Live_lay, r_law_done, r_law_all_undone, r_law_right_47, r_law_well, r_law_deep_right, r_law_50]
def cons : List (Str × D) := []
def xss : List (Str × XI) := [("RowError", ⟨0, none⟩), ("NoNumber", ⟨11, none⟩), ("NoCount", ⟨15, none⟩), ("NothingToUndo", ⟨16, none⟩), ("Barred", ⟨18, some "n"⟩)]
def clss : List (Str × List Str) := [("Live", ["numbers", "news"])]
theorem tab_ok : chkTab Tb cons xss clss = true := by decide +kernel
theorem T_Live_row : tabT Tb 300 = some d_Live_row := rfl
theorem hh_Live_row : H_Live_row (tabT Tb) := ⟨T_Live_row⟩
theorem T_Live_rings : tabT Tb 305 = some d_Live_rings := rfl
theorem hh_Live_rings : H_Live_rings (tabT Tb) := ⟨T_Live_rings⟩
theorem T_least_coming : tabT Tb 302 = some d_least_coming := rfl
theorem hh_least_coming : H_least_coming (tabT Tb) := ⟨T_least_coming⟩
theorem T_Live_coming : tabT Tb 303 = some d_Live_coming := rfl
theorem hh_Live_coming : H_Live_coming (tabT Tb) := ⟨T_Live_coming, hh_least_coming⟩
theorem T_Live_things : tabT Tb 307 = some d_Live_things := rfl
theorem hh_Live_things : H_Live_things (tabT Tb) := ⟨T_Live_things⟩
theorem T_Live___len__ : tabT Tb 306 = some d_Live___len__ := rfl
theorem hh_Live___len__ : H_Live___len__ (tabT Tb) := ⟨T_Live___len__⟩
theorem T_law_look : tabT Tb 330 = some d_law_look := rfl
theorem hh_law_look : H_law_look (tabT Tb) := ⟨T_law_look, hh_Live_row, hh_Live_rings, hh_Live_coming, hh_Live_things, hh_Live___len__⟩
theorem T_law_draw : tabT Tb 10 = some d_law_draw := rfl
theorem hh_law_draw : H_law_draw (tabT Tb) := ⟨T_law_draw⟩
theorem T_Live_undo : tabT Tb 314 = some d_Live_undo := rfl
theorem hh_Live_undo : H_Live_undo (tabT Tb) := ⟨T_Live_undo⟩
theorem T_law_drawn_call : tabT Tb 331 = some d_law_drawn_call := rfl
theorem hh_law_drawn_call : H_law_drawn_call (tabT Tb) := ⟨T_law_drawn_call, hh_law_draw, hh_Live_coming⟩
theorem T_is_whole : tabT Tb 2 = some d_is_whole := rfl
theorem hh_is_whole : H_is_whole (tabT Tb) := ⟨T_is_whole⟩
theorem T_may_come : tabT Tb 310 = some d_may_come := rfl
theorem hh_may_come : H_may_come (tabT Tb) := ⟨T_may_come, hh_least_coming⟩
theorem T_Live_put : tabT Tb 311 = some d_Live_put := rfl
theorem hh_Live_put : H_Live_put (tabT Tb) := ⟨T_Live_put, hh_least_coming⟩
theorem T_Live_tell : tabT Tb 312 = some d_Live_tell := rfl
theorem hh_Live_tell : H_Live_tell (tabT Tb) := ⟨T_Live_tell, hh_is_whole, hh_may_come, hh_Live_put⟩
theorem T_Live_lay : tabT Tb 313 = some d_Live_lay := rfl
theorem hh_Live_lay : H_Live_lay (tabT Tb) := ⟨T_Live_lay, hh_is_whole, hh_Live_put, hh_least_coming⟩
theorem T_law_done : tabT Tb 332 = some d_law_done := rfl
theorem hh_law_done : H_law_done (tabT Tb) := ⟨T_law_done, hh_Live_tell, hh_Live_lay⟩
theorem T_law_all_undone : tabT Tb 333 = some d_law_all_undone := rfl
theorem hh_law_all_undone : H_law_all_undone (tabT Tb) := ⟨T_law_all_undone, hh_law_look, hh_Live_undo⟩
theorem T_law_right_47 : tabT Tb 334 = some d_law_right_47 := rfl
theorem hh_law_right_47 : H_law_right_47 (tabT Tb) := ⟨T_law_right_47, hh_law_look, hh_law_draw, hh_Live_undo, hh_law_drawn_call, hh_law_done, hh_Live___len__, hh_law_all_undone⟩
theorem T_law_well : tabT Tb 16 = some d_law_well := rfl
theorem hh_law_well : H_law_well (tabT Tb) := ⟨T_law_well⟩
theorem T_law_deep_right : tabT Tb 335 = some d_law_deep_right := rfl
theorem hh_law_deep_right : H_law_deep_right (tabT Tb) := ⟨T_law_deep_right, hh_law_draw, hh_law_look, hh_Live_lay, hh_law_all_undone⟩
theorem T_law_50 : tabT Tb 336 = some d_law_50 := rfl
theorem hh_law_50 : H_law_50 (tabT Tb) := ⟨T_law_50, hh_law_right_47, hh_law_well, hh_law_draw, hh_law_deep_right⟩
end Vc
end
section
set_option Elab.async false
set_option linter.all false
set_option maxRecDepth 100000
namespace Vc
open PySem PySem.Spec PyProof.Rows L2
theorem law_true (ns : List Int) (hl : ns.length ≤ 63) : ∃ fs, run (tabT Tb) (msOf (tabT Tb)) 6 i_law_50 [.f (ns.map .int)] = .rt (.v (.bool true)) fs := ⟨_, law73_run (n := 0) hh_law_50 hl⟩
end Vc
end
section
set_option Elab.async false
set_option linter.all false
set_option maxRecDepth 100000
namespace Vc
open PySem PySem.Spec PyProof.Rows L2
def xst18 : Stmt := clsFirst (topS 5)
def qst : Stmt := clsAt (topS 11) 0
section
variable {w : World} {K : PySem.W.Frag} {h base : Heap} {mg : Str → Option Value}
theorem all_mk (X : K.In h) (G : h.Ns mainGlobals mg) (base : Heap) {P : Program}
  {qC qI : Addr} (qa : PySem.W.nsIn K mainGlobals "Live" = some (some (.ref qC)))
  (qf0 : PySem.W.plainGet K qC Str.empty = true)
  (qf1 : PySem.W.hasDictIn K qC = true)
  (qf2 : PySem.W.plainOver K qC = true)
  (qf3 : PySem.W.findIn K (.ref qC) "__setattr__" = some (some (.builtin "object.__setattr__")))
  (qf4 : PySem.W.makesIn K qC = true)
  (qf5 : PySem.W.findIn K (.ref qC) "__init__" = some (some (.ref qI)))
  (qf6 : PySem.W.isFn K (.ref qI) = true)
  (qf7 : PySem.W.keepIn K (.ref qC) = true)
  (qf8 : PySem.W.findIn K (.ref qC) "numbers" = some none)
  (qf9 : PySem.W.findIn K (.ref qC) "news" = some none)
  {qod qan : Option Addr} {qsl : Array (Option Value)} {qoc qkV qdc qpm qcd qct : Value}
  (ql : K.lookup qI = some ⟨qoc, qod, .func (PySem.W.fnOf "__init__" "Live.__init__" (defArgs qst) (defBody qst) (defScope qst) .none qkV qdc qpm qan qcd qct), qsl⟩) (qc : PySem.W.codeIn K qcd "Live.__init__" = true) (qk : PySem.W.keepIn K (.ref qI) = true)
  {f0 : Addr} {od0 an0 : Option Addr} {sl0 : Array (Option Value)} {oc0 kV0 dc0 pm0 cd0 ct0 : Value}
  (a0 : PySem.W.findIn K (.ref qC) "row" = some (some (.ref f0))) (b0 : PySem.W.isFn K (.ref f0) = true)
  (l0 : K.lookup f0 = some ⟨oc0, od0, .func (PySem.W.fnOf "row" "Live.row" (defArgs r_Live_row.st) (defBody r_Live_row.st) (defScope r_Live_row.st) .none kV0 dc0 pm0 an0 cd0 ct0), sl0⟩) (c0 : PySem.W.codeIn K cd0 "Live.row" = true) (k0 : PySem.W.keepIn K (.ref f0) = true)
  {f1 : Addr} {od1 an1 : Option Addr} {sl1 : Array (Option Value)} {oc1 kV1 dc1 pm1 cd1 ct1 : Value}
  (a1 : PySem.W.findIn K (.ref qC) "rings" = some (some (.ref f1))) (b1 : PySem.W.isFn K (.ref f1) = true)
  (l1 : K.lookup f1 = some ⟨oc1, od1, .func (PySem.W.fnOf "rings" "Live.rings" (defArgs r_Live_rings.st) (defBody r_Live_rings.st) (defScope r_Live_rings.st) .none kV1 dc1 pm1 an1 cd1 ct1), sl1⟩) (c1 : PySem.W.codeIn K cd1 "Live.rings" = true) (k1 : PySem.W.keepIn K (.ref f1) = true)
  {f2 : Addr} {od2 an2 : Option Addr} {sl2 : Array (Option Value)} {oc2 kV2 dc2 pm2 cd2 ct2 : Value}
  (a2 : PySem.W.nsIn K mainGlobals "least_coming" = some (some (.ref f2))) (l2 : K.lookup f2 = some ⟨oc2, od2, .func (PySem.W.fnOf "least_coming" "least_coming" (defArgs r_least_coming.st) (defBody r_least_coming.st) (defScope r_least_coming.st) .none kV2 dc2 pm2 an2 cd2 ct2), sl2⟩) (c2 : PySem.W.codeIn K cd2 "least_coming" = true) (k2 : PySem.W.keepIn K (.ref f2) = true)
  {f3 : Addr} {od3 an3 : Option Addr} {sl3 : Array (Option Value)} {oc3 kV3 dc3 pm3 cd3 ct3 : Value}
  (a3 : PySem.W.findIn K (.ref qC) "coming" = some (some (.ref f3))) (b3 : PySem.W.isFn K (.ref f3) = true)
  (l3 : K.lookup f3 = some ⟨oc3, od3, .func (PySem.W.fnOf "coming" "Live.coming" (defArgs r_Live_coming.st) (defBody r_Live_coming.st) (defScope r_Live_coming.st) .none kV3 dc3 pm3 an3 cd3 ct3), sl3⟩) (c3 : PySem.W.codeIn K cd3 "Live.coming" = true) (k3 : PySem.W.keepIn K (.ref f3) = true)
  {f4 : Addr} {od4 an4 : Option Addr} {sl4 : Array (Option Value)} {oc4 kV4 dc4 pm4 cd4 ct4 : Value}
  {p4 : Addr} {pr4 : List Value} (a4 : PySem.W.findIn K (.ref qC) "things" = some (some (.ref p4))) (pg4 : PySem.W.specialIn K (.ref p4) "__get__" = some (some (.builtin "property.__get__"))) (pt4 : PySem.W.takesIn K (.ref p4) = some true) (pq4 : PySem.W.recIn K p4 "property" = some (.ref f4 :: pr4))
  (l4 : K.lookup f4 = some ⟨oc4, od4, .func (PySem.W.fnOf "things" "Live.things" (defArgs r_Live_things.st) (defBody r_Live_things.st) (defScope r_Live_things.st) .none kV4 dc4 pm4 an4 cd4 ct4), sl4⟩) (c4 : PySem.W.codeIn K cd4 "Live.things" = true) (k4 : PySem.W.keepIn K (.ref f4) = true)
  {f5 : Addr} {od5 an5 : Option Addr} {sl5 : Array (Option Value)} {oc5 kV5 dc5 pm5 cd5 ct5 : Value}
  (a5 : PySem.W.findIn K (.ref qC) "__len__" = some (some (.ref f5))) (b5 : PySem.W.isFn K (.ref f5) = true)
  (l5 : K.lookup f5 = some ⟨oc5, od5, .func (PySem.W.fnOf "__len__" "Live.__len__" (defArgs r_Live___len__.st) (defBody r_Live___len__.st) (defScope r_Live___len__.st) .none kV5 dc5 pm5 an5 cd5 ct5), sl5⟩) (c5 : PySem.W.codeIn K cd5 "Live.__len__" = true) (k5 : PySem.W.keepIn K (.ref f5) = true)
  {f6 : Addr} {od6 an6 : Option Addr} {sl6 : Array (Option Value)} {oc6 kV6 dc6 pm6 cd6 ct6 : Value}
  (a6 : PySem.W.nsIn K mainGlobals "_law_look" = some (some (.ref f6))) (l6 : K.lookup f6 = some ⟨oc6, od6, .func (PySem.W.fnOf "_law_look" "_law_look" (defArgs r_law_look.st) (defBody r_law_look.st) (defScope r_law_look.st) .none kV6 dc6 pm6 an6 cd6 ct6), sl6⟩) (c6 : PySem.W.codeIn K cd6 "_law_look" = true) (k6 : PySem.W.keepIn K (.ref f6) = true)
  {f7 : Addr} {od7 an7 : Option Addr} {sl7 : Array (Option Value)} {oc7 kV7 dc7 pm7 cd7 ct7 : Value}
  (a7 : PySem.W.nsIn K mainGlobals "_law_draw" = some (some (.ref f7))) (l7 : K.lookup f7 = some ⟨oc7, od7, .func (PySem.W.fnOf "_law_draw" "_law_draw" (defArgs r_law_draw.st) (defBody r_law_draw.st) (defScope r_law_draw.st) .none kV7 dc7 pm7 an7 cd7 ct7), sl7⟩) (c7 : PySem.W.codeIn K cd7 "_law_draw" = true) (k7 : PySem.W.keepIn K (.ref f7) = true)
  {f8 : Addr} {od8 an8 : Option Addr} {sl8 : Array (Option Value)} {oc8 kV8 dc8 pm8 cd8 ct8 : Value}
  (a8 : PySem.W.findIn K (.ref qC) "undo" = some (some (.ref f8))) (b8 : PySem.W.isFn K (.ref f8) = true)
  (l8 : K.lookup f8 = some ⟨oc8, od8, .func (PySem.W.fnOf "undo" "Live.undo" (defArgs r_Live_undo.st) (defBody r_Live_undo.st) (defScope r_Live_undo.st) .none kV8 dc8 pm8 an8 cd8 ct8), sl8⟩) (c8 : PySem.W.codeIn K cd8 "Live.undo" = true) (k8 : PySem.W.keepIn K (.ref f8) = true)
  {f9 : Addr} {od9 an9 : Option Addr} {sl9 : Array (Option Value)} {oc9 kV9 dc9 pm9 cd9 ct9 : Value}
  (a9 : PySem.W.nsIn K mainGlobals "_law_drawn_call" = some (some (.ref f9))) (l9 : K.lookup f9 = some ⟨oc9, od9, .func (PySem.W.fnOf "_law_drawn_call" "_law_drawn_call" (defArgs r_law_drawn_call.st) (defBody r_law_drawn_call.st) (defScope r_law_drawn_call.st) .none kV9 dc9 pm9 an9 cd9 ct9), sl9⟩) (c9 : PySem.W.codeIn K cd9 "_law_drawn_call" = true) (k9 : PySem.W.keepIn K (.ref f9) = true)
  {f10 : Addr} {od10 an10 : Option Addr} {sl10 : Array (Option Value)} {oc10 kV10 dc10 pm10 cd10 ct10 : Value}
  (a10 : PySem.W.nsIn K mainGlobals "is_whole" = some (some (.ref f10))) (l10 : K.lookup f10 = some ⟨oc10, od10, .func (PySem.W.fnOf "is_whole" "is_whole" (defArgs r_is_whole.st) (defBody r_is_whole.st) (defScope r_is_whole.st) .none kV10 dc10 pm10 an10 cd10 ct10), sl10⟩) (c10 : PySem.W.codeIn K cd10 "is_whole" = true) (k10 : PySem.W.keepIn K (.ref f10) = true)
  {f11 : Addr} {od11 an11 : Option Addr} {sl11 : Array (Option Value)} {oc11 kV11 dc11 pm11 cd11 ct11 : Value}
  (a11 : PySem.W.nsIn K mainGlobals "may_come" = some (some (.ref f11))) (l11 : K.lookup f11 = some ⟨oc11, od11, .func (PySem.W.fnOf "may_come" "may_come" (defArgs r_may_come.st) (defBody r_may_come.st) (defScope r_may_come.st) .none kV11 dc11 pm11 an11 cd11 ct11), sl11⟩) (c11 : PySem.W.codeIn K cd11 "may_come" = true) (k11 : PySem.W.keepIn K (.ref f11) = true)
  {f12 : Addr} {od12 an12 : Option Addr} {sl12 : Array (Option Value)} {oc12 kV12 dc12 pm12 cd12 ct12 : Value}
  (a12 : PySem.W.findIn K (.ref qC) "put" = some (some (.ref f12))) (b12 : PySem.W.isFn K (.ref f12) = true)
  (l12 : K.lookup f12 = some ⟨oc12, od12, .func (PySem.W.fnOf "put" "Live.put" (defArgs r_Live_put.st) (defBody r_Live_put.st) (defScope r_Live_put.st) .none kV12 dc12 pm12 an12 cd12 ct12), sl12⟩) (c12 : PySem.W.codeIn K cd12 "Live.put" = true) (k12 : PySem.W.keepIn K (.ref f12) = true)
  {f13 : Addr} {od13 an13 : Option Addr} {sl13 : Array (Option Value)} {oc13 kV13 dc13 pm13 cd13 ct13 : Value}
  (a13 : PySem.W.findIn K (.ref qC) "tell" = some (some (.ref f13))) (b13 : PySem.W.isFn K (.ref f13) = true)
  (l13 : K.lookup f13 = some ⟨oc13, od13, .func (PySem.W.fnOf "tell" "Live.tell" (defArgs r_Live_tell.st) (defBody r_Live_tell.st) (defScope r_Live_tell.st) .none kV13 dc13 pm13 an13 cd13 ct13), sl13⟩) (c13 : PySem.W.codeIn K cd13 "Live.tell" = true) (k13 : PySem.W.keepIn K (.ref f13) = true)
  {f14 : Addr} {od14 an14 : Option Addr} {sl14 : Array (Option Value)} {oc14 kV14 dc14 pm14 cd14 ct14 : Value}
  (a14 : PySem.W.findIn K (.ref qC) "lay" = some (some (.ref f14))) (b14 : PySem.W.isFn K (.ref f14) = true)
  (l14 : K.lookup f14 = some ⟨oc14, od14, .func (PySem.W.fnOf "lay" "Live.lay" (defArgs r_Live_lay.st) (defBody r_Live_lay.st) (defScope r_Live_lay.st) .none kV14 dc14 pm14 an14 cd14 ct14), sl14⟩) (c14 : PySem.W.codeIn K cd14 "Live.lay" = true) (k14 : PySem.W.keepIn K (.ref f14) = true)
  {f15 : Addr} {od15 an15 : Option Addr} {sl15 : Array (Option Value)} {oc15 kV15 dc15 pm15 cd15 ct15 : Value}
  (a15 : PySem.W.nsIn K mainGlobals "_law_done" = some (some (.ref f15))) (l15 : K.lookup f15 = some ⟨oc15, od15, .func (PySem.W.fnOf "_law_done" "_law_done" (defArgs r_law_done.st) (defBody r_law_done.st) (defScope r_law_done.st) .none kV15 dc15 pm15 an15 cd15 ct15), sl15⟩) (c15 : PySem.W.codeIn K cd15 "_law_done" = true) (k15 : PySem.W.keepIn K (.ref f15) = true)
  {f16 : Addr} {od16 an16 : Option Addr} {sl16 : Array (Option Value)} {oc16 kV16 dc16 pm16 cd16 ct16 : Value}
  (a16 : PySem.W.nsIn K mainGlobals "_law_all_undone" = some (some (.ref f16))) (l16 : K.lookup f16 = some ⟨oc16, od16, .func (PySem.W.fnOf "_law_all_undone" "_law_all_undone" (defArgs r_law_all_undone.st) (defBody r_law_all_undone.st) (defScope r_law_all_undone.st) .none kV16 dc16 pm16 an16 cd16 ct16), sl16⟩) (c16 : PySem.W.codeIn K cd16 "_law_all_undone" = true) (k16 : PySem.W.keepIn K (.ref f16) = true)
  {f17 : Addr} {od17 an17 : Option Addr} {sl17 : Array (Option Value)} {oc17 kV17 dc17 pm17 cd17 ct17 : Value}
  (a17 : PySem.W.nsIn K mainGlobals "_law_right" = some (some (.ref f17))) (l17 : K.lookup f17 = some ⟨oc17, od17, .func (PySem.W.fnOf "_law_right" "_law_right" (defArgs r_law_right_47.st) (defBody r_law_right_47.st) (defScope r_law_right_47.st) .none kV17 dc17 pm17 an17 cd17 ct17), sl17⟩) (c17 : PySem.W.codeIn K cd17 "_law_right" = true) (k17 : PySem.W.keepIn K (.ref f17) = true)
  {f18 : Addr} {od18 an18 : Option Addr} {sl18 : Array (Option Value)} {oc18 kV18 dc18 pm18 cd18 ct18 : Value}
  (a18 : PySem.W.nsIn K mainGlobals "_law_well" = some (some (.ref f18))) (l18 : K.lookup f18 = some ⟨oc18, od18, .func (PySem.W.fnOf "_law_well" "_law_well" (defArgs r_law_well.st) (defBody r_law_well.st) (defScope r_law_well.st) .none kV18 dc18 pm18 an18 cd18 ct18), sl18⟩) (c18 : PySem.W.codeIn K cd18 "_law_well" = true) (k18 : PySem.W.keepIn K (.ref f18) = true)
  {f19 : Addr} {od19 an19 : Option Addr} {sl19 : Array (Option Value)} {oc19 kV19 dc19 pm19 cd19 ct19 : Value}
  (a19 : PySem.W.nsIn K mainGlobals "_law_deep_right" = some (some (.ref f19))) (l19 : K.lookup f19 = some ⟨oc19, od19, .func (PySem.W.fnOf "_law_deep_right" "_law_deep_right" (defArgs r_law_deep_right.st) (defBody r_law_deep_right.st) (defScope r_law_deep_right.st) .none kV19 dc19 pm19 an19 cd19 ct19), sl19⟩) (c19 : PySem.W.codeIn K cd19 "_law_deep_right" = true) (k19 : PySem.W.keepIn K (.ref f19) = true)
  {f20 : Addr} {od20 an20 : Option Addr} {sl20 : Array (Option Value)} {oc20 kV20 dc20 pm20 cd20 ct20 : Value}
  (a20 : PySem.W.nsIn K mainGlobals "law" = some (some (.ref f20))) (l20 : K.lookup f20 = some ⟨oc20, od20, .func (PySem.W.fnOf "law" "law" (defArgs r_law_50.st) (defBody r_law_50.st) (defScope r_law_50.st) .none kV20 dc20 pm20 an20 cd20 ct20), sl20⟩) (c20 : PySem.W.codeIn K cd20 "law" = true) (k20 : PySem.W.keepIn K (.ref f20) = true)
  (z0 : PySem.W.nsIn K mainGlobals "len" = some none)
  (z1 : PySem.W.nsIn K mainGlobals "abs" = some none)
  (z2 : PySem.W.nsIn K mainGlobals "int" = some none)
  (z3 : PySem.W.nsIn K mainGlobals "max" = some none)
  (z4 : PySem.W.nsIn K mainGlobals "min" = some none)
  (z5 : PySem.W.nsIn K mainGlobals "sum" = some none)
  (z6 : PySem.W.nsIn K mainGlobals "sorted" = some none)
  (z7 : PySem.W.nsIn K mainGlobals "list" = some none)
  (z8 : PySem.W.nsIn K mainGlobals "tuple" = some none)
  (z9 : PySem.W.nsIn K mainGlobals "repr" = some none)
  (z10 : PySem.W.nsIn K mainGlobals "str" = some none)
  (z11 : PySem.W.nsIn K mainGlobals "all" = some none)
  (z12 : PySem.W.nsIn K mainGlobals "any" = some none)
  (z13 : PySem.W.nsIn K mainGlobals "range" = some none)
  (z14 : PySem.W.nsIn K mainGlobals "isinstance" = some none)
  (z15 : PySem.W.nsIn K mainGlobals "enumerate" = some none)
  (z16 : PySem.W.nsIn K mainGlobals "zip" = some none)
  (z17 : PySem.W.nsIn K mainGlobals "bool" = some none)
  (z18 : PySem.W.nsIn K mainGlobals "reversed" = some none)
  (z19 : PySem.W.nsIn K mainGlobals "ValueError" = some none)
  {CB : Addr} (xa0 : PySem.W.nsIn K mainGlobals "RowError" = some (some (.ref CB)))
  (xf0_0 : PySem.W.keepIn K (.ref CB) = true)
  (xf0_1 : PySem.W.subIn K (.ref CB) (.type "BaseException") = some true)
  (xf0_2 : PySem.W.typeIn K (.ref CB) = some (.type "type"))
  (xf0_3 : PySem.W.isClsIn K CB = true)
  (xf0_4 : PySem.W.findIn K (.ref CB) "__getattribute__" = some (some (.builtin "BaseException.__getattribute__")))
  (xf0_5 : PySem.W.findIn K (.ref CB) "__getattr__" = some none)
  (xf0_6 : PySem.W.findIn K (.ref CB) "__class__" = some (some (.builtin "object.__class__")))
  (xf0_7 : PySem.W.mroIn K CB (.type "object") = some true)
  (xf0_8 : PySem.W.subIn K (.ref CB) (.type "ValueError") = some true)
  (xq0 : PySem.W.excIn K CB [.type "ValueError", .type "Exception", .type "BaseException", .type "object"] "ValueError.__new__" = true)
  {C11 : Addr} (xa11 : PySem.W.nsIn K mainGlobals "NoNumber" = some (some (.ref C11)))
  (xf11_0 : PySem.W.keepIn K (.ref C11) = true)
  (xf11_1 : PySem.W.subIn K (.ref C11) (.type "BaseException") = some true)
  (xf11_2 : PySem.W.typeIn K (.ref C11) = some (.type "type"))
  (xf11_3 : PySem.W.isClsIn K C11 = true)
  (xf11_4 : PySem.W.findIn K (.ref C11) "__getattribute__" = some (some (.builtin "BaseException.__getattribute__")))
  (xf11_5 : PySem.W.findIn K (.ref C11) "__getattr__" = some none)
  (xf11_6 : PySem.W.findIn K (.ref C11) "__class__" = some (some (.builtin "object.__class__")))
  (xf11_7 : PySem.W.mroIn K C11 (.type "object") = some true)
  (xf11_8 : PySem.W.subIn K (.ref C11) (.type "ValueError") = some true)
  (xq11 : PySem.W.excIn K C11 [.type "ValueError", .type "Exception", .type "BaseException", .type "object"] "ValueError.__new__" = true)
  {C15 : Addr} (xa15 : PySem.W.nsIn K mainGlobals "NoCount" = some (some (.ref C15)))
  (xf15_0 : PySem.W.keepIn K (.ref C15) = true)
  (xf15_1 : PySem.W.subIn K (.ref C15) (.type "BaseException") = some true)
  (xf15_2 : PySem.W.typeIn K (.ref C15) = some (.type "type"))
  (xf15_3 : PySem.W.isClsIn K C15 = true)
  (xf15_4 : PySem.W.findIn K (.ref C15) "__getattribute__" = some (some (.builtin "BaseException.__getattribute__")))
  (xf15_5 : PySem.W.findIn K (.ref C15) "__getattr__" = some none)
  (xf15_6 : PySem.W.findIn K (.ref C15) "__class__" = some (some (.builtin "object.__class__")))
  (xf15_7 : PySem.W.mroIn K C15 (.type "object") = some true)
  (xf15_8 : PySem.W.subIn K (.ref C15) (.type "ValueError") = some true)
  (xq15 : PySem.W.excIn K C15 [.type "ValueError", .type "Exception", .type "BaseException", .type "object"] "ValueError.__new__" = true)
  {C16 : Addr} (xa16 : PySem.W.nsIn K mainGlobals "NothingToUndo" = some (some (.ref C16)))
  (xf16_0 : PySem.W.keepIn K (.ref C16) = true)
  (xf16_1 : PySem.W.subIn K (.ref C16) (.type "BaseException") = some true)
  (xf16_2 : PySem.W.typeIn K (.ref C16) = some (.type "type"))
  (xf16_3 : PySem.W.isClsIn K C16 = true)
  (xf16_4 : PySem.W.findIn K (.ref C16) "__getattribute__" = some (some (.builtin "BaseException.__getattribute__")))
  (xf16_5 : PySem.W.findIn K (.ref C16) "__getattr__" = some none)
  (xf16_6 : PySem.W.findIn K (.ref C16) "__class__" = some (some (.builtin "object.__class__")))
  (xf16_7 : PySem.W.mroIn K C16 (.type "object") = some true)
  (xf16_8 : PySem.W.subIn K (.ref C16) (.type "ValueError") = some true)
  (xq16 : PySem.W.excIn K C16 [.type "ValueError", .type "Exception", .type "BaseException", .type "object"] "ValueError.__new__" = true)
  {C18 : Addr} (xa18 : PySem.W.nsIn K mainGlobals "Barred" = some (some (.ref C18)))
  (xf18_0 : PySem.W.keepIn K (.ref C18) = true)
  (xf18_1 : PySem.W.subIn K (.ref C18) (.type "BaseException") = some true)
  (xf18_2 : PySem.W.typeIn K (.ref C18) = some (.type "type"))
  (xf18_3 : PySem.W.isClsIn K C18 = true)
  (xf18_4 : PySem.W.findIn K (.ref C18) "__getattribute__" = some (some (.builtin "BaseException.__getattribute__")))
  (xf18_5 : PySem.W.findIn K (.ref C18) "__getattr__" = some none)
  (xf18_6 : PySem.W.findIn K (.ref C18) "__class__" = some (some (.builtin "object.__class__")))
  (xf18_7 : PySem.W.mroIn K C18 (.type "object") = some true)
  (xf18_8 : PySem.W.subIn K (.ref C18) (.type "ValueError") = some true)
  {nm18 q18 : Str} {N18 : Addr} {bs18 : List Value} {sn18 : List Str} {su18 : List Value} {ab18 : Bool} {co18 : Option Bool} {dx18 : Option Addr} {m018 m118 m218 m318 m518 : Option Value}
  (xL18 : K.lookup C18 = some (excClassObj nm18 q18 C18 N18 bs18 [.ref CB, .type "ValueError", .type "Exception", .type "BaseException", .type "object"] true sn18 su18 ab18 co18 dx18 m018 m118 m218 m318 m518 "ValueError.__new__"))
  (xs18 : PySem.W.findIn K (.ref C18) "__setattr__" = some (some (.builtin "object.__setattr__")))
  {fI18 : Addr} (xi18 : PySem.W.findIn K (.ref C18) "__init__" = some (some (.ref fI18)))
  (xt18 : PySem.W.typeIn K (.ref fI18) = some (.type "function"))
  (xn18 : PySem.W.findIn K (.ref C18) "n" = some none)
  (xh18 : PySem.W.hasDictIn K C18 = true)
  {xod18 xan18 : Option Addr} {xsl18 : Array (Option Value)} {xoc18 xkV18 xdc18 xpm18 xcd18 xct18 : Value}
  (xl18 : K.lookup fI18 = some ⟨xoc18, xod18, .func (PySem.W.fnOf "__init__" "Barred.__init__" (defArgs xst18) (defBody xst18) (defScope xst18) .none xkV18 xdc18 xpm18 xan18 xcd18 xct18), xsl18⟩) (xc18 : PySem.W.codeIn K xcd18 "Barred.__init__" = true) (xk18 : PySem.W.keepIn K (.ref fI18) = true)
  (xp0_0 : PySem.W.subIn K (.ref CB) (.ref CB) = some true)
  (xp0_11 : PySem.W.subIn K (.ref CB) (.ref C11) = some false)
  (xp0_15 : PySem.W.subIn K (.ref CB) (.ref C15) = some false)
  (xp0_16 : PySem.W.subIn K (.ref CB) (.ref C16) = some false)
  (xp0_18 : PySem.W.subIn K (.ref CB) (.ref C18) = some false)
  (xp11_0 : PySem.W.subIn K (.ref C11) (.ref CB) = some true)
  (xp11_11 : PySem.W.subIn K (.ref C11) (.ref C11) = some true)
  (xp11_15 : PySem.W.subIn K (.ref C11) (.ref C15) = some false)
  (xp11_16 : PySem.W.subIn K (.ref C11) (.ref C16) = some false)
  (xp11_18 : PySem.W.subIn K (.ref C11) (.ref C18) = some false)
  (xp15_0 : PySem.W.subIn K (.ref C15) (.ref CB) = some true)
  (xp15_11 : PySem.W.subIn K (.ref C15) (.ref C11) = some false)
  (xp15_15 : PySem.W.subIn K (.ref C15) (.ref C15) = some true)
  (xp15_16 : PySem.W.subIn K (.ref C15) (.ref C16) = some false)
  (xp15_18 : PySem.W.subIn K (.ref C15) (.ref C18) = some false)
  (xp16_0 : PySem.W.subIn K (.ref C16) (.ref CB) = some true)
  (xp16_11 : PySem.W.subIn K (.ref C16) (.ref C11) = some false)
  (xp16_15 : PySem.W.subIn K (.ref C16) (.ref C15) = some false)
  (xp16_16 : PySem.W.subIn K (.ref C16) (.ref C16) = some true)
  (xp16_18 : PySem.W.subIn K (.ref C16) (.ref C18) = some false)
  (xp18_0 : PySem.W.subIn K (.ref C18) (.ref CB) = some true)
  (xp18_11 : PySem.W.subIn K (.ref C18) (.ref C11) = some false)
  (xp18_15 : PySem.W.subIn K (.ref C18) (.ref C15) = some false)
  (xp18_16 : PySem.W.subIn K (.ref C18) (.ref C16) = some false)
  (xp18_18 : PySem.W.subIn K (.ref C18) (.ref C18) = some true)
  (xb1 : PySem.W.readsIn K CB (.type "type") = true) (xb2 : PySem.W.findCls K (.ref CB) (.type "type") "__init__" = some (.val (.builtin "ValueError.__init__"))) (xb3 : PySem.W.specialIn K (.ref CB) "__getattribute__" = some (some (.builtin "type.__getattribute__")))
  (xg1 : PySem.W.specialIn K (.builtin "object.__class__") "__get__" = some (some (.builtin "getset_descriptor.__get__"))) (xg2 : PySem.W.takesIn K (.builtin "object.__class__") = some true) :
  ∀ fa, mg "law" = some (.ref fa) → @FnG (xrI K mg xss) P w K mg base (xrOf K mg xss) (run (tabT Tb) (msOf (tabT Tb)) 6) (2 * 6 + 2) ["script"] 336 fa := fun fa hm => by
  letI : XrC := xrI K mg xss
  have BB : InT K mg "RowError" CB := ⟨PySem.W.mg_of X G xa0, xb1, xb2, xb3⟩
  have xok : XOk P w K mg base xss := xok_of ⟨⟨CB, xent0 (PySem.W.mg_of X G xa0) (xct_of xf0_0 xf0_1 xf0_2 xf0_3 xf0_4 xf0_5 xf0_6 xf0_7 xf0_8) xq0⟩, ⟨C11, xent0 (PySem.W.mg_of X G xa11) (xct_of xf11_0 xf11_1 xf11_2 xf11_3 xf11_4 xf11_5 xf11_6 xf11_7 xf11_8) xq11⟩, ⟨C15, xent0 (PySem.W.mg_of X G xa15) (xct_of xf15_0 xf15_1 xf15_2 xf15_3 xf15_4 xf15_5 xf15_6 xf15_7 xf15_8) xq15⟩, ⟨C16, xent0 (PySem.W.mg_of X G xa16) (xct_of xf16_0 xf16_1 xf16_2 xf16_3 xf16_4 xf16_5 xf16_6 xf16_7 xf16_8) xq16⟩, ⟨C18, xent1 (PySem.W.mg_of X G xa18) (xct_of xf18_0 xf18_1 xf18_2 xf18_3 xf18_4 xf18_5 xf18_6 xf18_7 xf18_8) BB xL18 xs18 xi18 xt18 xn18 xh18 (fun_mk xl18 xc18 xk18) (by decide +kernel)⟩, trivial⟩ ⟨⟨sub_mk (PySem.W.mg_of X G xa0) (PySem.W.mg_of X G xa0) xp0_0 rfl, sub_mk (PySem.W.mg_of X G xa0) (PySem.W.mg_of X G xa11) xp0_11 rfl, sub_mk (PySem.W.mg_of X G xa0) (PySem.W.mg_of X G xa15) xp0_15 rfl, sub_mk (PySem.W.mg_of X G xa0) (PySem.W.mg_of X G xa16) xp0_16 rfl, sub_mk (PySem.W.mg_of X G xa0) (PySem.W.mg_of X G xa18) xp0_18 rfl, trivial⟩, ⟨sub_mk (PySem.W.mg_of X G xa11) (PySem.W.mg_of X G xa0) xp11_0 rfl, sub_mk (PySem.W.mg_of X G xa11) (PySem.W.mg_of X G xa11) xp11_11 rfl, sub_mk (PySem.W.mg_of X G xa11) (PySem.W.mg_of X G xa15) xp11_15 rfl, sub_mk (PySem.W.mg_of X G xa11) (PySem.W.mg_of X G xa16) xp11_16 rfl, sub_mk (PySem.W.mg_of X G xa11) (PySem.W.mg_of X G xa18) xp11_18 rfl, trivial⟩, ⟨sub_mk (PySem.W.mg_of X G xa15) (PySem.W.mg_of X G xa0) xp15_0 rfl, sub_mk (PySem.W.mg_of X G xa15) (PySem.W.mg_of X G xa11) xp15_11 rfl, sub_mk (PySem.W.mg_of X G xa15) (PySem.W.mg_of X G xa15) xp15_15 rfl, sub_mk (PySem.W.mg_of X G xa15) (PySem.W.mg_of X G xa16) xp15_16 rfl, sub_mk (PySem.W.mg_of X G xa15) (PySem.W.mg_of X G xa18) xp15_18 rfl, trivial⟩, ⟨sub_mk (PySem.W.mg_of X G xa16) (PySem.W.mg_of X G xa0) xp16_0 rfl, sub_mk (PySem.W.mg_of X G xa16) (PySem.W.mg_of X G xa11) xp16_11 rfl, sub_mk (PySem.W.mg_of X G xa16) (PySem.W.mg_of X G xa15) xp16_15 rfl, sub_mk (PySem.W.mg_of X G xa16) (PySem.W.mg_of X G xa16) xp16_16 rfl, sub_mk (PySem.W.mg_of X G xa16) (PySem.W.mg_of X G xa18) xp16_18 rfl, trivial⟩, ⟨sub_mk (PySem.W.mg_of X G xa18) (PySem.W.mg_of X G xa0) xp18_0 rfl, sub_mk (PySem.W.mg_of X G xa18) (PySem.W.mg_of X G xa11) xp18_11 rfl, sub_mk (PySem.W.mg_of X G xa18) (PySem.W.mg_of X G xa15) xp18_15 rfl, sub_mk (PySem.W.mg_of X G xa18) (PySem.W.mg_of X G xa16) xp18_16 rfl, sub_mk (PySem.W.mg_of X G xa18) (PySem.W.mg_of X G xa18) xp18_18 rfl, trivial⟩, trivial⟩ (by decide) fun _ => ⟨xg1, xg2⟩
  exact tab_fn rfl tab_ok xok (AllB.mem (l := bltNames) ⟨PySem.W.mg_none_of X G z0, PySem.W.mg_none_of X G z1, PySem.W.mg_none_of X G z2, PySem.W.mg_none_of X G z3, PySem.W.mg_none_of X G z4, PySem.W.mg_none_of X G z5, PySem.W.mg_none_of X G z6, PySem.W.mg_none_of X G z7, PySem.W.mg_none_of X G z8, PySem.W.mg_none_of X G z9, PySem.W.mg_none_of X G z10, PySem.W.mg_none_of X G z11, PySem.W.mg_none_of X G z12, PySem.W.mg_none_of X G z13, PySem.W.mg_none_of X G z14, PySem.W.mg_none_of X G z15, PySem.W.mg_none_of X G z16, PySem.W.mg_none_of X G z17, PySem.W.mg_none_of X G z18, PySem.W.mg_none_of X G z19, trivial⟩) (AllC.con trivial) (one_cl (cla_of (PySem.W.mg_of X G qa) ⟨qf0, qf1, qf2, qf3⟩ qf8 qf9 ⟨qf4, qf5, qf6, qf7⟩ (fun_mk ql qc qk) (by decide +kernel))) (AllF.mem (Tb := Tb) ⟨⟨f0, _, ⟨qC, PySem.W.mg_of X G qa, ⟨qf0, qf1, qf2, qf3⟩, ⟨a0, b0, k0⟩⟩, fun_mk l0 c0 k0⟩, ⟨f1, _, ⟨qC, PySem.W.mg_of X G qa, ⟨qf0, qf1, qf2, qf3⟩, ⟨a1, b1, k1⟩⟩, fun_mk l1 c1 k1⟩, ⟨f2, _, PySem.W.mg_of X G a2, fun_mk l2 c2 k2⟩, ⟨f3, _, ⟨qC, PySem.W.mg_of X G qa, ⟨qf0, qf1, qf2, qf3⟩, ⟨a3, b3, k3⟩⟩, fun_mk l3 c3 k3⟩, ⟨f4, _, ⟨qC, p4, PySem.W.mg_of X G qa, ⟨qf0, qf1, qf2, qf3⟩, ⟨a4, pg4, pt4, pr4, pq4⟩⟩, fun_mk l4 c4 k4⟩, ⟨f5, _, ⟨qC, PySem.W.mg_of X G qa, ⟨qf0, qf1, qf2, qf3⟩, ⟨a5, b5, k5⟩⟩, fun_mk l5 c5 k5⟩, ⟨f6, _, PySem.W.mg_of X G a6, fun_mk l6 c6 k6⟩, ⟨f7, _, PySem.W.mg_of X G a7, fun_mk l7 c7 k7⟩, ⟨f8, _, ⟨qC, PySem.W.mg_of X G qa, ⟨qf0, qf1, qf2, qf3⟩, ⟨a8, b8, k8⟩⟩, fun_mk l8 c8 k8⟩, ⟨f9, _, PySem.W.mg_of X G a9, fun_mk l9 c9 k9⟩, ⟨f10, _, PySem.W.mg_of X G a10, fun_mk l10 c10 k10⟩, ⟨f11, _, PySem.W.mg_of X G a11, fun_mk l11 c11 k11⟩, ⟨f12, _, ⟨qC, PySem.W.mg_of X G qa, ⟨qf0, qf1, qf2, qf3⟩, ⟨a12, b12, k12⟩⟩, fun_mk l12 c12 k12⟩, ⟨f13, _, ⟨qC, PySem.W.mg_of X G qa, ⟨qf0, qf1, qf2, qf3⟩, ⟨a13, b13, k13⟩⟩, fun_mk l13 c13 k13⟩, ⟨f14, _, ⟨qC, PySem.W.mg_of X G qa, ⟨qf0, qf1, qf2, qf3⟩, ⟨a14, b14, k14⟩⟩, fun_mk l14 c14 k14⟩, ⟨f15, _, PySem.W.mg_of X G a15, fun_mk l15 c15 k15⟩, ⟨f16, _, PySem.W.mg_of X G a16, fun_mk l16 c16 k16⟩, ⟨f17, _, PySem.W.mg_of X G a17, fun_mk l17 c17 k17⟩, ⟨f18, _, PySem.W.mg_of X G a18, fun_mk l18 c18 k18⟩, ⟨f19, _, PySem.W.mg_of X G a19, fun_mk l19 c19 k19⟩, ⟨f20, _, PySem.W.mg_of X G a20, fun_mk l20 c20 k20⟩, trivial⟩) 6 r_law_50 fa (by simp [Tb]) rfl hm
end
end Vc
end
open PySem PySem.W PyProof.Rows
set_option maxHeartbeats 0 in
theorem PySem.Challenge.cw_backafter_k73_whole_live_rows_undone_holds : PySem.Challenge.rw_backafter_k73_whole_live_rows_undone.Holds := by
  w_on; o_law; k_head; (case hw => w_witness2)
  k_fill
  refine Vc.walk_G (l := PySem.Challenge.rw_backafter_k73_whole_live_rows_undone) (n := 63) (k := 2 * 6 + 2) (f := 336) (xI := fun K mg => Vc.xrI K mg Vc.xss) (Φ := Vc.run (Vc.tabT Vc.Tb) (Vc.msOf (Vc.tabT Vc.Tb)) 6) rfl (by decide) rfl ⟨rfl, by decide, by decide⟩ (fun w h Y => PySem.W.kIn_of Y) ?F (fun ns hl => Vc.law_true ns hl)
  case F =>
    intro w mg fa h KX G hmg base _ _
    refine' Vc.all_mk KX G base ?qa ?qf0 ?qf1 ?qf2 ?qf3 ?qf4 ?qf5 ?qf6 ?qf7 ?qf8 ?qf9 ?ql ?qc ?qk ?a0 ?b0 ?l0 ?c0 ?k0 ?a1 ?b1 ?l1 ?c1 ?k1 ?a2 ?l2 ?c2 ?k2 ?a3 ?b3 ?l3 ?c3 ?k3 ?a4 ?pg4 ?pt4 ?pq4 ?l4 ?c4 ?k4 ?a5 ?b5 ?l5 ?c5 ?k5 ?a6 ?l6 ?c6 ?k6 ?a7 ?l7 ?c7 ?k7 ?a8 ?b8 ?l8 ?c8 ?k8 ?a9 ?l9 ?c9 ?k9 ?a10 ?l10 ?c10 ?k10 ?a11 ?l11 ?c11 ?k11 ?a12 ?b12 ?l12 ?c12 ?k12 ?a13 ?b13 ?l13 ?c13 ?k13 ?a14 ?b14 ?l14 ?c14 ?k14 ?a15 ?l15 ?c15 ?k15 ?a16 ?l16 ?c16 ?k16 ?a17 ?l17 ?c17 ?k17 ?a18 ?l18 ?c18 ?k18 ?a19 ?l19 ?c19 ?k19 ?a20 ?l20 ?c20 ?k20 ?z0 ?z1 ?z2 ?z3 ?z4 ?z5 ?z6 ?z7 ?z8 ?z9 ?z10 ?z11 ?z12 ?z13 ?z14 ?z15 ?z16 ?z17 ?z18 ?z19 ?xa0 ?xf0_0 ?xf0_1 ?xf0_2 ?xf0_3 ?xf0_4 ?xf0_5 ?xf0_6 ?xf0_7 ?xf0_8 ?xq0 ?xa11 ?xf11_0 ?xf11_1 ?xf11_2 ?xf11_3 ?xf11_4 ?xf11_5 ?xf11_6 ?xf11_7 ?xf11_8 ?xq11 ?xa15 ?xf15_0 ?xf15_1 ?xf15_2 ?xf15_3 ?xf15_4 ?xf15_5 ?xf15_6 ?xf15_7 ?xf15_8 ?xq15 ?xa16 ?xf16_0 ?xf16_1 ?xf16_2 ?xf16_3 ?xf16_4 ?xf16_5 ?xf16_6 ?xf16_7 ?xf16_8 ?xq16 ?xa18 ?xf18_0 ?xf18_1 ?xf18_2 ?xf18_3 ?xf18_4 ?xf18_5 ?xf18_6 ?xf18_7 ?xf18_8 ?xL18 ?xs18 ?xi18 ?xt18 ?xn18 ?xh18 ?xl18 ?xc18 ?xk18 ?xp0_0 ?xp0_11 ?xp0_15 ?xp0_16 ?xp0_18 ?xp11_0 ?xp11_11 ?xp11_15 ?xp11_16 ?xp11_18 ?xp15_0 ?xp15_11 ?xp15_15 ?xp15_16 ?xp15_18 ?xp16_0 ?xp16_11 ?xp16_15 ?xp16_16 ?xp16_18 ?xp18_0 ?xp18_11 ?xp18_15 ?xp18_16 ?xp18_18 ?xb1 ?xb2 ?xb3 ?xg1 ?xg2 fa hmg
    (case qa => k_is); (case qf0 => k_is); (case qf1 => k_is); (case qf2 => k_is); (case qf3 => k_is); (case qf4 => k_is); (case qf5 => k_is); (case qf6 => k_is); (case qf7 => k_is); (case qf8 => k_is); (case qf9 => k_is); (case ql => k_is); (case qc => k_is); (case qk => k_is); (case a0 => k_is); (case b0 => k_is); (case l0 => k_is); (case c0 => k_is); (case k0 => k_is); (case a1 => k_is); (case b1 => k_is); (case l1 => k_is); (case c1 => k_is); (case k1 => k_is); (case a2 => k_is); (case l2 => k_is); (case c2 => k_is); (case k2 => k_is); (case a3 => k_is); (case b3 => k_is); (case l3 => k_is); (case c3 => k_is); (case k3 => k_is); (case a4 => k_is); (case pg4 => k_is); (case pt4 => k_is); (case pq4 => k_is); (case l4 => k_is); (case c4 => k_is); (case k4 => k_is); (case a5 => k_is); (case b5 => k_is); (case l5 => k_is); (case c5 => k_is); (case k5 => k_is); (case a6 => k_is); (case l6 => k_is); (case c6 => k_is); (case k6 => k_is); (case a7 => k_is); (case l7 => k_is); (case c7 => k_is); (case k7 => k_is); (case a8 => k_is); (case b8 => k_is); (case l8 => k_is); (case c8 => k_is); (case k8 => k_is); (case a9 => k_is); (case l9 => k_is); (case c9 => k_is); (case k9 => k_is); (case a10 => k_is); (case l10 => k_is); (case c10 => k_is); (case k10 => k_is); (case a11 => k_is); (case l11 => k_is); (case c11 => k_is); (case k11 => k_is); (case a12 => k_is); (case b12 => k_is); (case l12 => k_is); (case c12 => k_is); (case k12 => k_is); (case a13 => k_is); (case b13 => k_is); (case l13 => k_is); (case c13 => k_is); (case k13 => k_is); (case a14 => k_is); (case b14 => k_is); (case l14 => k_is); (case c14 => k_is); (case k14 => k_is); (case a15 => k_is); (case l15 => k_is); (case c15 => k_is); (case k15 => k_is); (case a16 => k_is); (case l16 => k_is); (case c16 => k_is); (case k16 => k_is); (case a17 => k_is); (case l17 => k_is); (case c17 => k_is); (case k17 => k_is); (case a18 => k_is); (case l18 => k_is); (case c18 => k_is); (case k18 => k_is); (case a19 => k_is); (case l19 => k_is); (case c19 => k_is); (case k19 => k_is); (case a20 => k_is); (case l20 => k_is); (case c20 => k_is); (case k20 => k_is); (case z0 => k_is); (case z1 => k_is); (case z2 => k_is); (case z3 => k_is); (case z4 => k_is); (case z5 => k_is); (case z6 => k_is); (case z7 => k_is); (case z8 => k_is); (case z9 => k_is); (case z10 => k_is); (case z11 => k_is); (case z12 => k_is); (case z13 => k_is); (case z14 => k_is); (case z15 => k_is); (case z16 => k_is); (case z17 => k_is); (case z18 => k_is); (case z19 => k_is); (case xa0 => k_is); (case xf0_0 => k_is); (case xf0_1 => k_is); (case xf0_2 => k_is); (case xf0_3 => k_is); (case xf0_4 => k_is); (case xf0_5 => k_is); (case xf0_6 => k_is); (case xf0_7 => k_is); (case xf0_8 => k_is); (case xq0 => k_exc); (case xa11 => k_is); (case xf11_0 => k_is); (case xf11_1 => k_is); (case xf11_2 => k_is); (case xf11_3 => k_is); (case xf11_4 => k_is); (case xf11_5 => k_is); (case xf11_6 => k_is); (case xf11_7 => k_is); (case xf11_8 => k_is); (case xq11 => k_exc); (case xa15 => k_is); (case xf15_0 => k_is); (case xf15_1 => k_is); (case xf15_2 => k_is); (case xf15_3 => k_is); (case xf15_4 => k_is); (case xf15_5 => k_is); (case xf15_6 => k_is); (case xf15_7 => k_is); (case xf15_8 => k_is); (case xq15 => k_exc); (case xa16 => k_is); (case xf16_0 => k_is); (case xf16_1 => k_is); (case xf16_2 => k_is); (case xf16_3 => k_is); (case xf16_4 => k_is); (case xf16_5 => k_is); (case xf16_6 => k_is); (case xf16_7 => k_is); (case xf16_8 => k_is); (case xq16 => k_exc); (case xa18 => k_is); (case xf18_0 => k_is); (case xf18_1 => k_is); (case xf18_2 => k_is); (case xf18_3 => k_is); (case xf18_4 => k_is); (case xf18_5 => k_is); (case xf18_6 => k_is); (case xf18_7 => k_is); (case xf18_8 => k_is); (case xL18 => k_is); (case xs18 => k_is); (case xi18 => k_is); (case xt18 => k_is); (case xn18 => k_is); (case xh18 => k_is); (case xl18 => k_is); (case xc18 => k_is); (case xk18 => k_is); (case xp0_0 => k_is); (case xp0_11 => k_is); (case xp0_15 => k_is); (case xp0_16 => k_is); (case xp0_18 => k_is); (case xp11_0 => k_is); (case xp11_11 => k_is); (case xp11_15 => k_is); (case xp11_16 => k_is); (case xp11_18 => k_is); (case xp15_0 => k_is); (case xp15_11 => k_is); (case xp15_15 => k_is); (case xp15_16 => k_is); (case xp15_18 => k_is); (case xp16_0 => k_is); (case xp16_11 => k_is); (case xp16_15 => k_is); (case xp16_16 => k_is); (case xp16_18 => k_is); (case xp18_0 => k_is); (case xp18_11 => k_is); (case xp18_15 => k_is); (case xp18_16 => k_is); (case xp18_18 => k_is); (case xb1 => k_is); (case xb2 => k_is); (case xb3 => k_is); (case xg1 => k_is); (case xg2 => k_is)
