import PyProof.Rows.All
import Wide.All
import OpenK.AllK
import Wide.FinOn
import KE.KStateDown
import HandS.ForMost
import HandS.ForExc
import HandS.Flow
import HandS.IsInst
import HandS.TupAny
import HandS.TupMul
import HandS.Text
import HandS.Style
import HandS.List
import HandS.Walk
import HandS.Comp
import HandS.More
import HandS.TryMany
import HandS.ExcIs
import HandS.ExcField
import HandS.ExcInit
import KE.KExcIs
import HandS.Defaults
import HandS.CallSlots
import HandS.HeadHook3
import HandS.CallRecv
import HandS.Dict
import HandS.Strs
import HandS.SetFor
import HandS.Rev
import KE.GoesEnum
import HandS.SortKw
import HandS.Conv
import HandS.MakeKw
import HandS.Replace
import HandS.Head0
import HandS.Head1
import HandS.Head2
import HandS.HeadEnd
import HandS.HeadHook1
import HandS.HeadHook2
import PySem.Challenge.RW_roundproof_k41_refusals_stand_apart
set_option Elab.async false
set_option linter.all false
set_option maxRecDepth 100000
set_option maxHeartbeats 0
/-! Rp, part 0: the mini language and its evaluator. -/
namespace Rp
open PySem

noncomputable abbrev D := PyData

/-- the classes of refusals -/
inductive XC where
  | PaperError | BadTerm | BadNumbers | TooLong | BadProgram | BadName | TooBig | BadText | BadWay | BadTurn | BadPlace | NoName | BadPaper | ValueError
  deriving DecidableEq

/-- primitives over data -/
inductive P where
  | add | sub | mul | fdiv | mod | pow | neg | eq | ne | lt | le | gt | ge | isN | ntN | inn | nin | ix | rev
  | isi (t : Nat)
  | len | tupO | lstO | sum | intO | strO | idxS | dm | max | min | max0 | srt | srtS | lenS | lrng | join | idx | cnt | isT | ntT | maxL
  deriving DecidableEq

inductive Fi where
  | par | int (n : Int) | lst | dct
  deriving DecidableEq
/-- what a loop walks -/
inductive ItK where
  | seq | rng | enu | zip | rev
  deriving DecidableEq

mutual
inductive Ex where
  | var (i : Nat)
  | con (d : D)
  | glo (x : Str) (d : D)
  | tup (es : Exs) | lst (es : Exs)
  | pr (p : P) (es : Exs)
  | and (a b : Ex) | or (a b : Ex) | not (a : Ex) | ite (c a b : Ex)
  | chn (ps : List P) (a : Ex) (es : Exs)
  | slc (e : Ex) (lo hi : Exs)
  | call (f : Nat) (es : Exs)
  | comp (elt : Ex) (tg : List Nat) (k : ItK) (es : Exs) (cnd : Exs)
  | isx (c : XC) (i : Nat)
  | fld (i : Nat) (f : Str)
  | inD (x : Str) (ks : List Str) (neg : Bool) (e : Ex)
  | getD (x : Str) (kvs : List (Str × D)) (e : Ex)
  | keysS (x : Str) (ks : List Str)
  | compX (elt : Ex) (tg : List Nat) (k : ItK) (es : Exs) (cnd : Exs)
  | fldO (i : Nat) (f : Str)
  | ixF (i : Nat) (f : Str) (j : Nat) (n : Int)
  | mth (i : Nat) (cn m : Str) (f : Nat) (es : Exs)
  | mthN (i : Nat) (f : Nat) (es : Exs)
  | newm (c : Str) (ini : List (Str × Fi)) (m : Str) (f : Nat) (as : List (Nat × Bool))
  | callK (f : Nat) (kw : Str) (es : Exs)
  | callD (f : Nat) (es : Exs) (i : Int)
  | ixL (i : Nat) (e : Ex)
  | mthL (i f : Nat) (a b : Ex)
  | dget (kvs : List (Str × Int)) (e : Ex) (z : Int)
inductive Exs where
  | nil
  | cons (e : Ex) (r : Exs)
end

noncomputable def Exs.len : Exs → Nat
  | .nil => 0
  | .cons _ r => r.len + 1

mutual
inductive S where
  | asg (i : Nat) (e : Ex)
  | unp (is : List Nat) (e : Ex)
  | aug (i : Nat) (p : P) (e : Ex)
  | app (i : Nat) (e : Ex) | ext (i : Nat) (e : Ex) | inz (i : Nat) (k e : Ex) | six (i : Nat) (k e : Ex)
  | ifs (c : Ex) (a b : Ss)
  | for (tg : List Nat) (k : ItK) (es : Exs) (body : Ss)
  | whl (c : Ex) (body : Ss)
  | ret (e : Ex)
  | pass | brk
  | exp (e : Ex)
  | raise (c : XC) | raiseP (c : XC) (e : Ex)
  | try (body : Ss) (hs : Hs)
  | sixF (i : Nat) (f : Str) (j : Nat) (n : Int) (e : Ex)
  | augF (i : Nat) (f : Str) (k : Int)
  | augxF (i : Nat) (f : Str) (j : Nat) (n : Int) (k : Int)
  | mk (i : Nat) (c : Str) (ini : List (Str × Fi)) (es : Exs)
  | asgL (i : Nat) (e : Ex) | sixL (i : Nat) (k e : Ex)
  | bad
inductive Ss where
  | nil
  | cons (s : S) (r : Ss)
  | disp (i : Nat) (x : Str) (kfs : List (Str × Nat)) (e : Ex) (es : Exs)
  | dsel (i j n : Nat) (k1 : List Str) (e1 : Exs) (k2 : List Str) (e2 : Exs)
inductive Hs where
  | nil
  | cons (c : XC) (as : Option Nat) (body : Ss) (r : Hs)
end

/-- what a field of an object holds: data; a list that nobody else knows -/
inductive FW where
  | opq
  | val (d : D) | own (ds : List D)
/-- an object: its class, its fields -/
structure Ob where
  c : Str
  fs : List (Str × FW)
/-- what a slot holds: data; a list that nobody else knows; an error; an object -/
inductive W where
  | val (d : D) | own (ds : List D) | exc (c : XC) (p : Option D) | obj (o : Ob) | lnt (b : Bool) (ds : List D)

structure Exn where
  c : XC
  p : Option D

structure Cfg where
  env : List (Option W)

inductive Rs (α : Type) where
  | ok (a : α) (c : Cfg) | ex (x : Exn) (c : Cfg) | no

noncomputable def Rs.bind {α β : Type} (r : Rs α) (k : α → Cfg → Rs β) : Rs β := match r with
  | .ok a c => k a c
  | .ex x c => .ex x c
  | .no => .no

theorem Rs.bind_assoc {α β γ : Type} (r : Rs α) (f : α → Cfg → Rs β) (g : β → Cfg → Rs γ) : (r.bind f).bind g = r.bind fun a c => (f a c).bind g := by cases r <;> rfl
theorem Rs.bind_ok {α β : Type} (a : α) (c : Cfg) (f : α → Cfg → Rs β) : (Rs.ok a c).bind f = f a c := rfl
theorem Rs.bind_ex {α β : Type} (x : Exn) (c : Cfg) (f : α → Cfg → Rs β) : (Rs.ex x c).bind f = .ex x c := rfl
theorem Rs.bind_no {α β : Type} (f : α → Cfg → Rs β) : (Rs.no : Rs α).bind f = .no := rfl
theorem Rs.bind_ite {α β : Type} {p : Prop} [Decidable p] (a b : Rs α) (f : α → Cfg → Rs β) : (if p then a else b).bind f = if p then a.bind f else b.bind f := by split <;> rfl

/-! ### primitives -/
noncomputable def big : Nat := 16777216
/-- equality may be asked: not too deep -/
noncomputable def dOk (d e : D) : Bool := decide (d.depth ≤ 190) || decide (e.depth ≤ 190)
noncomputable def ixD {α : Type} (xs : List α) (i : Int) : Option α := L2.atI xs i
noncomputable def cutL {α : Type} (xs : List α) (lo hi : Option Int) : List α := (xs.drop (HT.sIx xs.length 0 lo)).take (HT.sIx xs.length xs.length hi - HT.sIx xs.length 0 lo)
noncomputable def isi (t : Nat) (d : D) : Bool := match t, d with
  | 0, .int _ => true
  | 0, .bool _ => true
  | 1, .bool _ => true
  | 2, .str _ => true
  | 3, .tuple _ => true
  | 4, .list _ => true
  | _, _ => false
noncomputable def isNone : D → Bool
  | .none => true
  | _ => false
noncomputable def truth : D → Option Bool
  | .none => some false
  | .bool b => some b
  | .int i => some (i != 0)
  | .str s => if s.length ≤ big then some (s.length != 0) else none
  | .list l => some (!l.isEmpty)
  | .tuple l => some (!l.isEmpty)
  | .dict _ => none
noncomputable def dInts : List D → Option (List Int)
  | [] => some []
  | .int i :: r => (dInts r).map (i :: ·)
  | _ :: _ => none
noncomputable def rngD (lo : Int) (n : Nat) : List D := (List.range n).map fun (i : Nat) => .int (lo + (i : Int))
noncomputable def rngN (lo : Int) (n : Nat) : List D := (List.range n).map fun (i : Nat) => .int (lo + (i : Int) * (-1))
noncomputable def small (i : Int) : Bool := decide (-(2 ^ 62) ≤ i) && decide (i < 2 ^ 62)
noncomputable def mulOk (i j : Int) : Bool := (decide (-(2 ^ 64) < i) && decide (i < 2 ^ 64)) || (decide (-(2 ^ 64) < j) && decide (j < 2 ^ 64))
noncomputable def anyEqv (d : D) (l : List D) : Bool := l.any fun z => PyData.eqv z d

noncomputable def vI (i : Int) : Option W := some (.val (.int i))
noncomputable def vB (b : Bool) : Option W := some (.val (.bool b))

noncomputable def pAdd : D → D → Option W
  | .int i, .int j => vI (i + j)
  | .str x, .str y => if x.length + y.length ≤ big then some (.val (.str (x ++ y))) else none
  | .tuple x, .tuple y => if x.length + y.length ≤ big then some (.val (.tuple (x ++ y))) else none
  | .list x, .list y => if x.length + y.length ≤ big then some (.own (x ++ y)) else none
  | _, _ => none
noncomputable def pMul : D → D → Option W
  | .int i, .int j => if mulOk i j then vI (i * j) else none
  | .list x, .int j => if small j && decide (x.length * j.toNat ≤ big) then some (.own ((List.replicate j.toNat x).flatten)) else none
  | .tuple x, .int j => if !x.isEmpty && decide (1 ≤ j) && decide (j ≤ 1000) && decide (x.length ≤ 1000) then some (.val (.tuple ((List.replicate j.toNat x).flatten))) else none
  | _, _ => none
noncomputable def pIx : D → D → Option W
  | .tuple l, .int i => (ixD l i).map .val
  | .list l, .int i => (ixD l i).map .val
  | .str s, .int i => if s.length ≤ big then (ixD s.cps.toList i).map fun c => .val (.str ⟨#[c]⟩) else none
  | _, _ => none
noncomputable def pIn : D → D → Option Bool
  | d, .tuple l => if decide (d.depth ≤ 180) then some (anyEqv d l) else none
  | d, .list l => if decide (d.depth ≤ 180) then some (anyEqv d l) else none
  | .str ⟨c⟩, .str z => match c.toList with
    | [c] => some (decide (c ∈ z.cps.toList))
    | _ => none
  | _, _ => none
/-- the greatest, the least of some ints -/
noncomputable def maxI : List Int → Option Int
  | [] => none
  | a :: r => some (r.foldl (fun x y => if y > x then y else x) a)
noncomputable def minI : List Int → Option Int
  | [] => none
  | a :: r => some (r.foldl (fun x y => if y < x then y else x) a)
/-- the first place of an int -/
noncomputable def idxI (k : Int) : List Int → Option Nat
  | [] => none
  | a :: r => if a = k then some 0 else (idxI k r).map (· + 1)
/-- the distinct ints, rising -/
noncomputable def insS (k : Int) : List Int → List Int
  | [] => [k]
  | a :: r => if k < a then k :: a :: r else if k = a then a :: r else a :: insS k r
noncomputable def sortS : List Int → List Int
  | [] => []
  | k :: r => insS k (sortS r)
/-- texts -/
noncomputable def dStrs : List D → Option (List Str)
  | [] => some []
  | .str s :: r => (dStrs r).map (s :: ·)
  | _ :: _ => none
/-- where a text begins in another one -/
noncomputable def fndS (a b : Str) : Option Nat := (Builtin.Str.occurrences a b 0 a.length 1).head?
noncomputable def isBl (b : Bool) : D → Bool
  | .bool a => a == b
  | _ => false
noncomputable def prim : P → List D → Option W
  | .add, [a, b] => pAdd a b
  | .sub, [.int i, .int j] => vI (i - j)
  | .mul, [a, b] => pMul a b
  | .fdiv, [.int i, .int j] => if decide (0 < j) && decide (j < 1073741824) then vI (i / j) else none
  | .mod, [.int i, .int j] => if 0 < j then vI (i % j) else none
  | .pow, [.int i, .int j] => if decide (0 ≤ j) && decide (j ≤ 1000000) && decide (i.natAbs < 2 ^ 64) then vI (i ^ j.toNat) else none
  | .neg, [.int i] => vI (-i)
  | .eq, [a, b] => if dOk a b then vB (PyData.eqv a b) else none
  | .ne, [a, b] => if dOk a b then vB (!PyData.eqv a b) else none
  | .lt, [.int i, .int j] => vB (decide (i < j))
  | .le, [.int i, .int j] => vB (decide (i ≤ j))
  | .gt, [.int i, .int j] => vB (decide (j < i))
  | .ge, [.int i, .int j] => vB (decide (j ≤ i))
  | .isN, [d] => vB (isNone d)
  | .ntN, [d] => vB (!isNone d)
  | .inn, [a, b] => (pIn a b).map fun t => .val (.bool t)
  | .nin, [a, b] => (pIn a b).map fun t => .val (.bool (!t))
  | .ix, [a, b] => pIx a b
  | .rev, [.list l] => some (.own l.reverse)
  | .rev, [.tuple l] => some (.val (.tuple l.reverse))
  | .rev, [.str s] => if s.length ≤ 2 then some (.val (.str ⟨s.cps.toList.reverse.toArray⟩)) else none
  | .isi t, [d] => vB (isi t d)
  | .len, [.list l] => vI l.length
  | .len, [.tuple l] => vI l.length
  | .len, [.str s] => if s.length ≤ big then vI s.length else none
  | .tupO, [.list l] => some (.val (.tuple l))
  | .tupO, [.tuple l] => some (.val (.tuple l))
  | .lstO, [.list l] => some (.own l)
  | .lstO, [.tuple l] => some (.own l)
  | .sum, [.list l] => (dInts l).map fun l => .val (.int l.sum)
  | .intO, [.bool b] => vI (if b then 1 else 0)
  | .intO, [.int i] => vI i
  | .max, [.list l] => ((dInts l).bind maxI).bind vI
  | .max, [.int i, .int j] => vI (if j > i then j else i)
  | .min, [.list l] => ((dInts l).bind minI).bind vI
  | .min, [.int i, .int j] => vI (if j < i then j else i)
  | .idx, [.list l, .int k] => ((dInts l).bind (idxI k)).bind fun j => vI (j : Nat)
  | .srtS, [.list l] => (dInts l).bind fun ns => if decide (ns.length ≤ 1000) && decide ((sortS ns).length < 64) then some (.own ((sortS ns).map .int)) else none
  | .max0, [.list l] => (dInts l).map fun ns => .val (.int ((maxI ns).getD 0))
  | .lrng, [.int j] => if small j && decide (j.toNat ≤ big) then some (.own (rngD 0 j.toNat)) else none
  | .strO, [.int i] => if decide (i.natAbs < 2 ^ 64) then some (.val (.str (toString i))) else none
  | .join, [.str a, .list l] => (dStrs l).bind fun ys => if (ys.map (·.length)).sum + ys.length * a.length ≤ big then some (.val (.str (Str.join a ys))) else none
  | .idxS, [.str a, .str b] => (fndS a b).bind fun j => vI (j : Nat)
  | .isT, [d, .bool b] => vB (isBl b d)
  | .ntT, [d, .bool b] => vB (!isBl b d)
  | _, _ => none

noncomputable def enuD : Nat → List D → List D
  | _, [] => []
  | i, x :: r => .tuple [.int (i : Int), x] :: enuD (i + 1) r
noncomputable def zipD : List D → List D → List D → List D
  | x :: a, y :: b, z :: c => .tuple [x, y, z] :: zipD a b c
  | _, _, _ => []
/-- the things walked -/
noncomputable def itOf : ItK → List D → Option (List D)
  | .seq, [.list l] => some l
  | .seq, [.tuple l] => some l
  | .rng, [.int j] => if small j && decide (j.toNat ≤ big) then some (rngD 0 j.toNat) else none
  | .rng, [.int i, .int j] => if small i && small j && decide ((j - i).toNat ≤ big) then some (rngD i (j - i).toNat) else none
  | .rng, [.int i, .int j, .int k] => if decide (k = -1) && small i && small j && decide ((i - j).toNat ≤ big) then some (rngN i (i - j).toNat) else none
  | .enu, [.list l] => if l.length ≤ big then some (enuD 0 l) else none
  | .rev, [.list l] => if l.length ≤ big then some l.reverse else none
  | .rev, [.tuple l] => if l.length ≤ big then some l.reverse else none
  | .zip, [.list a, .list b, .tuple c] => if decide (b.length = a.length) && decide (c.length = a.length) && decide (a.length ≤ big) then some (zipD a b c) else none
  | _, _ => none

/-- a bound must be an int -/
noncomputable def bndR (r : Rs D) : Rs (Option Int) := r.bind fun d c => match d with | .int i => .ok (some i) c | _ => .no
noncomputable def sliceD (d : D) (lo hi : Option Int) : Option W := match d with
  | .list l => some (.own (cutL l lo hi))
  | .tuple l => some (.val (.tuple (cutL l lo hi)))
  | .str s => if s.length ≤ big then some (.val (.str ⟨(cutL s.cps.toList lo hi).toArray⟩)) else none
  | _ => none

/-- the one field of an error -/
noncomputable def xf : XC → Str
  | .BadName => "word"
  | _ => "way"
/-! ### slots -/
noncomputable def getS (c : Cfg) (i : Nat) : Option W := (c.env[i]?).join
noncomputable def setS (c : Cfg) (i : Nat) (w : Option W) : Cfg := ⟨c.env.set i w⟩
/-- targets of a walk or an unpacking -/
noncomputable def bindL : List Nat → List D → Cfg → Option Cfg
  | [], [], c => some c
  | i :: is, d :: ds, c => bindL is ds (setS c i (some (.val d)))
  | _, _, _ => none
noncomputable def bindU (is : List Nat) (d : D) (c : Cfg) : Option Cfg := match d with
  | .tuple ds => bindL is ds c
  | _ => none
noncomputable def bindT (tg : List Nat) (d : D) (c : Cfg) : Option Cfg := match tg with
  | [i] => some (setS c i (some (.val d)))
  | is => bindU is d c
noncomputable def frz : W → Option D
  | .val d => some d
  | .own ds => some (.list ds)
  | .exc _ _ => none
  | .obj _ => none
  | .lnt _ _ => none
noncomputable def frzR (r : Rs W) : Rs D := r.bind fun w c => match frz w with | some d => .ok d c | none => .no
noncomputable def peekR (e : Ex) (c : Cfg) (r : Rs W) : Rs D := match e with
  | .var i => match getS c i with
    | some (.val d) => .ok d c
    | some (.own ds) => .ok (.list ds) c
    | _ => .no
  | _ => frzR r
/-- no error comes through -/
noncomputable def noX {α : Type} (r : Rs α) : Rs α := match r with | .ex _ _ => .no | r => r
noncomputable def truthR (r : Rs D) : Rs Bool := r.bind fun d c => match truth d with | some t => .ok t c | none => .no
noncomputable def optR {α : Type} (o : Option α) (c : Cfg) : Rs α := match o with | some a => .ok a c | none => .no

noncomputable def itR (ik : ItK) (r : Rs (List D)) : Rs (List D) := r.bind fun ds c => optR (itOf ik ds) c

/-- one class under another -/
noncomputable def subX (c k : XC) : Bool := decide (c = k) || match k with
  | .PaperError => decide (c ≠ .ValueError)
  | .ValueError => true
  | _ => false

/-! ### loops -/
noncomputable def compL (tg : List Nat) (cnd : Cfg → Rs Bool) (elt : Cfg → Rs D) : List D → Cfg → Rs (List D)
  | [], c => .ok [] c
  | x :: xs, c => match bindT tg x c with
    | none => .no
    | some c1 => (cnd c1).bind fun t c2 => if t then (elt c2).bind fun d c3 => (compL tg cnd elt xs c3).bind fun ds c4 => .ok (d :: ds) c4 else compL tg cnd elt xs c2

inductive Fl where
  | nx | rt (w : W) | bk | ct

noncomputable def forL (tg : List Nat) (body : Cfg → Rs Fl) : List D → Cfg → Rs Fl
  | [], c => .ok .nx c
  | x :: xs, c => match bindT tg x c with
    | none => .no
    | some c1 => (body c1).bind fun f c2 => match f with
      | .nx => forL tg body xs c2
      | .ct => forL tg body xs c2
      | .bk => .ok .nx c2
      | .rt w => .ok (.rt w) c2
noncomputable def whlL (cnd : Cfg → Rs Bool) (body : Cfg → Rs Fl) : Nat → Cfg → Rs Fl
  | 0, _ => .no
  | n + 1, c => (cnd c).bind fun t c1 => if t then (body c1).bind fun f c2 => match f with
      | .nx => whlL cnd body n c2
      | .ct => whlL cnd body n c2
      | .bk => .ok .nx c2
      | .rt w => .ok (.rt w) c2
    else .ok .nx c1

/-! ### expressions -/
structure Den where
  v : Cfg → Rs W
  t : Cfg → Rs Bool
structure Call where
  f : Nat → List D → Option (Sum W Exn)
  m : Nat → Ob → List D → Option (Sum W Exn × Ob)
  l : Nat → D → List D → D → Option (Sum W Exn × List D)

/-- a node that is tested by its value -/
noncomputable def Den.of (v : Cfg → Rs W) : Den := ⟨v, fun c => truthR (frzR (v c))⟩

/-- a link of a chain of comparisons -/
noncomputable def chainR (o : Option W) (last : Bool) (go : Cfg → Rs W) (c : Cfg) : Rs W := match o with
  | some (.val (.bool t)) => if last then .ok (.val (.bool t)) c else if t then go c else .ok (.val (.bool false)) c
  | _ => .no
/-- the names of a comprehension are not lists of one's own outside -/
noncomputable def savable (tg : List Nat) (c : Cfg) : Bool := tg.all fun i => match getS c i with
  | some (.own _) => false
  | some (.exc _ _) => false
  | some (.obj _) => false
  | some (.lnt _ _) => false
  | _ => true
noncomputable def restore (c0 : Cfg) : List Nat → Cfg → Cfg
  | [], c => c
  | i :: r, c => restore c0 r (setS c i (getS c0 i))

/-- the object of a slot; no other slot holds one -/
noncomputable def soleO (i : Nat) : Nat → List (Option W) → Bool
  | _, [] => true
  | j, some (.obj _) :: r => j == i && soleO i (j + 1) r
  | j, some (.lnt _ _) :: r => j == i && soleO i (j + 1) r
  | j, _ :: r => soleO i (j + 1) r
noncomputable def getO (c : Cfg) (i : Nat) : Option Ob := match getS c i with
  | some (.obj o) => some o
  | _ => none
/-- a lent list; b: lent to this def -/
noncomputable def getL (c : Cfg) (i : Nat) : Option (Bool × List D) := match getS c i with
  | some (.lnt b ds) => some (b, ds)
  | _ => none
/-- no slot holds an object -/
noncomputable def noObj : List (Option W) → Bool
  | [] => true
  | some (.obj _) :: _ => false
  | some (.lnt _ _) :: _ => false
  | _ :: r => noObj r
noncomputable def ofF (o : Ob) (f : Str) : Option FW := o.fs.lookup f
noncomputable def putW (f : Str) (w : FW) : List (Str × FW) → List (Str × FW)
  | [] => []
  | (g, x) :: r => if g = f then (g, w) :: r else (g, x) :: putW f w r
noncomputable def putO (o : Ob) (f : Str) (w : FW) : Ob := ⟨o.c, putW f w o.fs⟩
/-- the list of a field, and the place that slot j's n-th thing tells -/
noncomputable def atF (c : Cfg) (i : Nat) (f : Str) (j : Nat) (n : Int) : Option (Ob × List D × Int) := match getO c i, getS c j with
  | some o, some (.val t) => if soleO i 0 c.env then (match ofF o f, prim .ix [t, .int n] with
    | some (.own ds), some (.val (.int k)) => some (o, ds, k)
    | _, _ => none) else none
  | _, _ => none
/-- a new object by its text: fields that hold a number, or the argument -/
noncomputable def iniO (c : Str) : List (Str × Fi) → List FW → Option Ob
  | [], [] => some ⟨c, []⟩
  | (f, .int n) :: r, ws => (iniO c r ws).map fun o => ⟨c, (f, .val (.int n)) :: o.fs⟩
  | (f, .lst) :: r, ws => (iniO c r ws).map fun o => ⟨c, (f, .val (.list [])) :: o.fs⟩
  | (f, .dct) :: r, ws => (iniO c r ws).map fun o => ⟨c, (f, .opq) :: o.fs⟩
  | (f, .par) :: r, w :: ws => (iniO c r ws).map fun o => ⟨c, (f, w) :: o.fs⟩
  | _, _ => none
/-- a call's end, the object put back -/
noncomputable def mthR (r : Option (Sum W Exn × Ob)) (i : Nat) (c : Cfg) : Rs W := match r with
  | some (.inl w, o) => .ok w (setS c i (some (.obj o)))
  | some (.inr x, o) => .ex x (setS c i (some (.obj o)))
  | none => .no
/-- a call's end, the lent list put back -/
noncomputable def lntR (r : Option (Sum W Exn × List D)) (i : Nat) (b : Bool) (c : Cfg) : Rs W := match r with
  | some (.inl w, ds) => .ok w (setS c i (some (.lnt b ds)))
  | some (.inr x, ds) => .ex x (setS c i (some (.lnt b ds)))
  | none => .no
noncomputable def fwOf : W → Option FW
  | .val d => some (.val d)
  | .own ds => some (.own ds)
  | _ => none
/-- slots as arguments, as they are or by list(..) -/
noncomputable def atsD (c : Cfg) : List (Nat × Bool) → Option (List D)
  | [] => some []
  | (i, b) :: r => match getS c i, atsD c r with
    | some (.val d), some ds => if b then (match d with
      | .list l => some (.list l :: ds)
      | .tuple l => some (.list l :: ds)
      | _ => none) else some (d :: ds)
    | _, _ => none
/-- a comprehension's end: its names as they were -/
noncomputable def endC (c0 : Cfg) (tg : List Nat) (r : Rs (List D)) : Rs W := match r with
  | .ok ds c' => .ok (.own ds) (restore c0 tg c')
  | .ex x c' => .ex x (restore c0 tg c')
  | .no => .no
mutual
noncomputable def den (k : Call) : Ex → Den
  | .var i => ⟨fun c => match getS c i with
      | some (.own ds) => .ok (.val (.list ds)) (setS c i (some (.val (.list ds))))
      | some (.val d) => .ok (.val d) c
      | _ => .no,
    fun c => match getS c i with
      | some (.own ds) => truthR (.ok (.list ds) c)
      | some (.val d) => truthR (.ok d c)
      | _ => .no⟩
  | .con d => .of fun c => .ok (.val d) c
  | .glo _ d => .of fun c => .ok (.val d) c
  | .tup es => .of fun c => (denVs k es c).bind fun ds c => .ok (.val (.tuple ds)) c
  | .lst es => .of fun c => (denVs k es c).bind fun ds c => .ok (.own ds) c
  | .pr p es => .of fun c => (denPs k es c).bind fun ds c => optR (prim p ds) c
  | .and a b => ⟨fun c => (peekR a c ((den k a).v c)).bind fun d c => match d with
        | .bool t => if t then (den k b).v c else .ok (.val (.bool false)) c
        | _ => .no,
      fun c => ((den k a).t c).bind fun t c => if t then (den k b).t c else .ok false c⟩
  | .or a b => ⟨fun c => (peekR a c ((den k a).v c)).bind fun d c => match d with
        | .bool t => if t then .ok (.val (.bool true)) c else (den k b).v c
        | _ => .no,
      fun c => ((den k a).t c).bind fun t c => if t then .ok true c else (den k b).t c⟩
  | .not a => ⟨fun c => (truthR (peekR a c ((den k a).v c))).bind fun t c => .ok (.val (.bool (!t))) c, fun c => ((den k a).t c).bind fun t c => .ok (!t) c⟩
  | .ite x a b => ⟨fun c => ((den k x).t c).bind fun t c => if t then (den k a).v c else (den k b).v c, fun c => ((den k x).t c).bind fun t c => if t then (den k a).t c else (den k b).t c⟩
  | .chn ps a es => .of fun c => (peekR a c ((den k a).v c)).bind fun d c => denC k es ps d c
  | .slc e lo hi => .of fun c => (peekR e c ((den k e).v c)).bind fun d c => (denO k lo c).bind fun lo c => (denO k hi c).bind fun hi c => optR (sliceD d lo hi) c
  | .call f es => .of fun c => (denVs k es c).bind fun ds c => match k.f f ds with
      | some (.inl w) => .ok w c
      | some (.inr x) => .ex x c
      | none => .no
  | .comp elt tg ik es cnd => .of fun c => (itR ik (denVs k es c)).bind fun items c =>
      if savable tg c then (noX (compL tg (denTs k cnd) (fun c => frzR ((den k elt).v c)) items c)).bind fun ds c' => .ok (.own ds) (restore c tg c') else .no
  | .isx x i => .of fun c => match getS c i with
      | some (.exc c' _) => .ok (.val (.bool (subX c' x))) c
      | _ => .no
  | .fld i f => .of fun c => match getS c i with
      | some (.exc c' (some d)) => if xf c' = f then .ok (.val d) c else .no
      | _ => .no
  | .inD _ ks neg e => .of fun c => (peekR e c ((den k e).v c)).bind fun d c => match d with
      | .str s => .ok (.val (.bool (if neg then !decide (s ∈ ks) else decide (s ∈ ks)))) c
      | _ => .no
  | .getD _ kvs e => .of fun c => (peekR e c ((den k e).v c)).bind fun d c => match d with
      | .str s => (match kvs.lookup s with
        | some d => .ok (.val d) c
        | none => .no)
      | _ => .no
  | .keysS _ ks => .of fun c => .ok (.own (ks.map .str)) c
  | .compX elt tg ik es cnd => .of fun c => (itR ik (denVs k es c)).bind fun items c =>
      if savable tg c then endC c tg (compL tg (denTs k cnd) (fun c => frzR ((den k elt).v c)) items c) else .no
  | .fldO i f => .of fun c => match getO c i with
      | some o => (match ofF o f with
        | some (.val d) => .ok (.val d) c
        | _ => .no)
      | none => .no
  | .ixF i f j n => .of fun c => match atF c i f j n with
      | some (_, ds, k) => (match ixD ds k with
        | some d => .ok (.val d) c
        | none => .no)
      | none => .no
  | .mth i cn m f es => .of fun c => match getO c i with
      | some o => if decide (o.c = cn) && (ofF o m).isNone then (denVs k es c).bind fun ds c => (match getO c i with
        | some o => if soleO i 0 c.env then mthR (k.m f o ds) i c else .no
        | none => .no) else .no
      | none => .no
  | .mthN i f es => .of fun c => match getO c i with
      | some _ => (denVs k es c).bind fun ds c => (match getO c i with
        | some o => if soleO i 0 c.env then mthR (k.m f o ds) i c else .no
        | none => .no)
      | none => .no
  | .newm c ini m f as => .of fun cf => match iniO c ini [], atsD cf as with
      | some o, some ds => if (ofF o m).isNone then (match k.m f o ds with
        | some (.inl w, _) => .ok w cf
        | some (.inr x, _) => .ex x cf
        | none => .no) else .no
      | _, _ => .no
  | .callK f _ es => .of fun c => (denVs k es c).bind fun ds c => match k.f f ds with
      | some (.inl w) => .ok w c
      | some (.inr x) => .ex x c
      | none => .no
  | .callD f es i => .of fun c => (denVs k es c).bind fun ds c => match k.f f (ds ++ [.int i]) with
      | some (.inl w) => .ok w c
      | some (.inr x) => .ex x c
      | none => .no
  | .ixL i e => .of fun c => match getL c i with
      | some _ => (frzR ((den k e).v c)).bind fun d c => (match getL c i, d with
        | some (_, ds), .int j => optR ((ixD ds j).map .val) c
        | _, _ => .no)
      | none => .no
  | .dget kvs e z => .of fun c => (frzR ((den k e).v c)).bind fun d c => match d with
      | .str s => .ok (.val (.int ((kvs.lookup s).getD z))) c
      | _ => .no
  | .mthL i f a b => .of fun c => match getL c i with
      | some _ => (frzR ((den k a).v c)).bind fun d0 c => (frzR ((den k b).v c)).bind fun d2 c => (match getL c i with
        | some (q, ds) => if soleO i 0 c.env then lntR (k.l f d0 ds d2) i q c else .no
        | none => .no)
      | none => .no
noncomputable def denVs (k : Call) : Exs → Cfg → Rs (List D)
  | .nil, c => .ok [] c
  | .cons e r, c => (frzR ((den k e).v c)).bind fun d c => (denVs k r c).bind fun ds c => .ok (d :: ds) c
noncomputable def denPs (k : Call) : Exs → Cfg → Rs (List D)
  | .nil, c => .ok [] c
  | .cons e r, c => (peekR e c ((den k e).v c)).bind fun d c => (denPs k r c).bind fun ds c => .ok (d :: ds) c
noncomputable def denTs (k : Call) : Exs → Cfg → Rs Bool
  | .nil, c => .ok true c
  | .cons e _, c => (den k e).t c
noncomputable def denO (k : Call) : Exs → Cfg → Rs (Option Int)
  | .nil, c => .ok none c
  | .cons e _, c => bndR (peekR e c ((den k e).v c))
/-- at most one argument, as it comes -/
noncomputable def denWs (k : Call) : Exs → Cfg → Rs (List FW)
  | .nil, c => .ok [] c
  | .cons e r, c => match r with
    | .nil => ((den k e).v c).bind fun w c => (match fwOf w with
      | some w => .ok [w] c
      | none => .no)
    | _ => .no
noncomputable def denC (k : Call) : Exs → List P → D → Cfg → Rs W
  | .nil, _, _, _ => .no
  | .cons e r, ps, a, c => (peekR e c ((den k e).v c)).bind fun b c => match ps with
    | [] => .no
    | p :: ps => chainR (prim p [a, b]) ps.isEmpty (denC k r ps b) c
end

/-! ### statements -/
/-- no slot holds an error -/
noncomputable def noExc (c : Cfg) : Bool := c.env.all fun o => match o with | some (.exc _ _) => false | _ => true
noncomputable def wfuel : Nat := 100000
noncomputable def augP (p : P) (a b : D) : Option W := match p, a, b with
  | .add, .int i, .int j => vI (i + j)
  | .sub, .int i, .int j => vI (i - j)
  | _, _, _ => none

/-- an own list that is returned goes to the caller -/
noncomputable def retOwn (e : Ex) (c : Cfg) : Option (List D × Cfg) := match e with
  | .var i => match getS c i with
    | some (.own ds) => some (ds, setS c i none)
    | _ => none
  | _ => none
noncomputable def tryR (r : Rs Fl) (h : Exn → Cfg → Rs Fl) : Rs Fl := match r with
  | .ex x c => h x c
  | r => r
mutual
noncomputable def exS (k : Call) : S → Cfg → Rs Fl
  | .asg i e, c => ((den k e).v c).bind fun w c => .ok .nx (setS c i (some w))
  | .unp is e, c => (frzR ((den k e).v c)).bind fun d c => match d, bindT is d c with
      | .tuple _, some c => .ok .nx c
      | _, _ => .no
  | .aug i p e, c => match getS c i with
      | some (.val a) => (frzR ((den k e).v c)).bind fun b c => match augP p a b with
        | some w => .ok .nx (setS c i (some w))
        | none => .no
      | _ => .no
  | .app i e, c => match getS c i with
      | some (.own _) => (frzR ((den k e).v c)).bind fun d c => match getS c i with
        | some (.own ds) => if ds.length < big then .ok .nx (setS c i (some (.own (ds ++ [d])))) else .no
        | _ => .no
      | _ => .no
  | .ext i e, c => match getS c i with
      | some (.own _) => ((den k e).v c).bind fun w c => match getS c i, w with
        | some (.own ds), .own es => if ds.length + es.length ≤ big then .ok .nx (setS c i (some (.own (ds ++ es)))) else .no
        | _, _ => .no
      | _ => .no
  | .inz i k' e, c => match getS c i with
      | some (.own _) => (frzR ((den k k').v c)).bind fun a c => (frzR ((den k e).v c)).bind fun d c => match getS c i, a with
        | some (.own ds), .int j => if decide (0 ≤ j) && decide (j ≤ ds.length) && decide (ds.length < big) then .ok .nx (setS c i (some (.own (ds.take j.toNat ++ [d] ++ ds.drop j.toNat)))) else .no
        | _, _ => .no
      | _ => .no
  | .six i k' e, c => (frzR ((den k e).v c)).bind fun d c => match getS c i with
      | some (.own _) => (frzR ((den k k').v c)).bind fun a c => match getS c i, a with
        | some (.own ds), .int j => if decide (0 ≤ j) && decide (j < ds.length) then .ok .nx (setS c i (some (.own (ds.set j.toNat d)))) else if decide (j < 0) && decide (-(ds.length : Int) ≤ j) then .ok .nx (setS c i (some (.own (ds.set (j + ds.length).toNat d)))) else .no
        | _, _ => .no
      | _ => .no
  | .ifs x a b, c => ((den k x).t c).bind fun t c => if t then exSs k a c else exSs k b c
  | .for tg ik es body, c => (itR ik (denVs k es c)).bind fun items c => forL tg (exSs k body) items c
  | .whl x body, c => whlL (den k x).t (exSs k body) wfuel c
  | .ret e, c => match retOwn e c with
      | some ds => .ok (.rt (.own ds.1)) ds.2
      | none => ((den k e).v c).bind fun w c => .ok (.rt w) c
  | .pass, c => .ok .nx c
  | .brk, c => .ok .bk c
  | .exp e, c => (frzR ((den k e).v c)).bind fun _ c => .ok .nx c
  | .raise x, c => .ex ⟨x, none⟩ c
  | .raiseP x e, c => (frzR ((den k e).v c)).bind fun d c => .ex ⟨x, some d⟩ c
  | .try body hs, c => tryR (exSs k body c) (fun x c => exHs k hs x c)
  | .sixF i f j n e, c => (frzR ((den k e).v c)).bind fun d c => match atF c i f j n with
      | some (o, ds, a) => if decide (0 ≤ a) && decide (a < ds.length) then .ok .nx (setS c i (some (.obj (putO o f (.own (ds.set a.toNat d)))))) else .no
      | none => .no
  | .augF i f a, c => match getO c i with
      | some o => (match ofF o f with
        | some (.val (.int b)) => if soleO i 0 c.env then .ok .nx (setS c i (some (.obj (putO o f (.val (.int (b + a))))))) else .no
        | _ => .no)
      | none => .no
  | .augxF i f j n a, c => match atF c i f j n with
      | some (o, ds, b) => if decide (0 ≤ b) && decide (b < ds.length) then (match ds[b.toNat]? with
          | some (.int x) => .ok .nx (setS c i (some (.obj (putO o f (.own (ds.set b.toNat (.int (x + a))))))))
          | _ => .no) else .no
      | none => .no
  | .mk i c ini es, cf => if noObj cf.env && decide (0 < i) && decide (i < cf.env.length) then (denWs k es cf).bind fun ws cf => (match iniO c ini ws with
      | some o => if noObj cf.env then .ok .nx (setS cf i (some (.obj o))) else .no
      | none => .no) else .no
  | .asgL i e, c => ((den k e).v c).bind fun w c => match w with
      | .own ds => .ok .nx (setS c i (some (.lnt false ds)))
      | _ => .no
  | .sixL i k' e, c => (frzR ((den k e).v c)).bind fun d c => match getL c i with
      | some _ => (frzR ((den k k').v c)).bind fun a c => (match getL c i, a with
        | some (q, ds), .int j => if decide (0 ≤ j) && decide (j < ds.length) && soleO i 0 c.env then .ok .nx (setS c i (some (.lnt q (ds.set j.toNat d)))) else .no
        | _, _ => .no)
      | none => .no
  | .bad, _ => .no
noncomputable def exSs (k : Call) : Ss → Cfg → Rs Fl
  | .nil, c => .ok .nx c
  | .cons s r, c => (exS k s c).bind fun f c => match f with
      | .nx => exSs k r c
      | f => .ok f c
  | .disp i _ kfs e es, c => (peekR e c ((den k e).v c)).bind fun d c => match d with
      | .str s => (match kfs.lookup s with
        | some f => if i < c.env.length then (denVs k es (setS c i none)).bind fun ds c => (match k.f f ds with
          | some (.inl w) => .ok (.rt w) c
          | some (.inr x) => .ex x c
          | none => .no) else .no
        | none => .no)
      | _ => .no
  | .dsel i j n k1 e1 k2 e2, c => if i < c.env.length ∧ j < c.env.length then (denVs k e1 c).bind fun d1 c => (denVs k e2 (setS c i none)).bind fun d2 c => match getS (setS c j none) n with
      | some (.val (.str s)) => (match (k1.zip d1).lookup s with
        | some d => .ok (.rt (.val d)) (setS c j none)
        | none => (match (k2.zip d2).lookup s with
          | some d => .ok (.rt (.val d)) (setS c j none)
          | none => .no))
      | _ => .no else .no
noncomputable def exHs (k : Call) : Hs → Exn → Cfg → Rs Fl
  | .nil, x, c => .ex x c
  | .cons h as body r, x, c => if subX x.c h then
        (match as with
        | none => noX (exSs k body c)
        | some i => if noExc c && decide (i < c.env.length) then (noX (exSs k body (setS c i (some (.exc x.c x.p))))).bind fun f c => if noExc (setS c i none) then .ok f (setS c i none) else .no else .no)
      else exHs k r x c
end

/-! ### functions -/
structure Fn where
  np : Nat
  ns : Nat
  body : Ss
noncomputable def finR : Rs Fl → Option (Sum W Exn)
  | .ok (.rt (.exc _ _)) _ => none
  | .ok (.rt (.obj _)) _ => none
  | .ok (.rt (.lnt _ _)) _ => none
  | .ok (.rt w) _ => some (.inl w)
  | .ok .nx _ => some (.inl (.val .none))
  | .ok _ _ => none
  | .ex x _ => some (.inr x)
  | .no => none
noncomputable def runF (k : Call) (f : Fn) (args : List D) : Option (Sum W Exn) :=
  if args.length = f.np then finR (exSs k f.body ⟨args.map (fun d => some (.val d)) ++ List.replicate (f.ns - f.np) none⟩) else none
/-- a method: its object is lent and handed back -/
noncomputable def finM (r : Rs Fl) : Option (Sum W Exn × Ob) := match r with
  | .ok (.rt (.exc _ _)) _ => none
  | .ok (.rt (.obj _)) _ => none
  | .ok (.rt (.lnt _ _)) _ => none
  | .ok (.rt w) c => (getO c 0).map fun o => (.inl w, o)
  | .ok .nx c => (getO c 0).map fun o => (.inl (.val .none), o)
  | .ok _ _ => none
  | .ex x c => (getO c 0).map fun o => (.inr x, o)
  | .no => none
noncomputable def runM (k : Call) (f : Fn) (o : Ob) (args : List D) : Option (Sum W Exn × Ob) :=
  if args.length + 1 = f.np then finM (exSs k f.body ⟨some (.obj o) :: args.map (fun d => some (.val d)) ++ List.replicate (f.ns - f.np) none⟩) else none
/-- a def whose second argument is a list that is lent -/
noncomputable def getT (c : Cfg) : Option (List D) := match getS c 1 with
  | some (.lnt true ds) => some ds
  | _ => none
noncomputable def finL (r : Rs Fl) : Option (Sum W Exn × List D) := match r with
  | .ok (.rt (.exc _ _)) _ => none
  | .ok (.rt (.obj _)) _ => none
  | .ok (.rt (.lnt _ _)) _ => none
  | .ok (.rt w) c => (getT c).map fun ds => (.inl w, ds)
  | .ok .nx c => (getT c).map fun ds => (.inl (.val .none), ds)
  | .ok _ _ => none
  | .ex x c => (getT c).map fun ds => (.inr x, ds)
  | .no => none
noncomputable def runL (k : Call) (f : Fn) (d0 : D) (ds : List D) (d2 : D) : Option (Sum W Exn × List D) :=
  if f.np = 3 then finL (exSs k f.body ⟨some (.val d0) :: some (.lnt true ds) :: some (.val d2) :: List.replicate (f.ns - 3) none⟩) else none
noncomputable def callN (tab : Nat → Option Fn) : Nat → Call
  | 0 => ⟨fun _ _ => none, fun _ _ _ => none, fun _ _ _ _ => none⟩
  | n + 1 => ⟨fun f args => match tab f with
    | some fn => runF (callN tab n) fn args
    | none => none, fun f o args => match tab f with
    | some fn => runM (callN tab n) fn o args
    | none => none, fun f d0 ds d2 => match tab f with
    | some fn => runL (callN tab n) fn d0 ds d2
    | none => none⟩
end Rp

/-! Rp, part 1: how the evaluator's states stand for heaps. -/
namespace Rp
open PySem PySem.Spec PyProof.Rows L2

/-- who may change the list at an address -/
inductive Ow where
  | slot (n i : Nat) | tmp | obj (x : Addr) (k : Nat)
noncomputable abbrev Om := Addr → Option Ow
noncomputable def hide (H : Hp) (ω : Om) : Hp := fun a => match ω a with | none => H a | some _ => none
theorem hide_free {H : Hp} {ω : Om} {a : Addr} (h : ω a = none) : hide H ω a = H a := by simp only [hide, h]
theorem hide_some {H : Hp} {ω : Om} {a : Addr} {o : HO} (h : hide H ω a = some o) : H a = some o ∧ ω a = none := by
  unfold hide at h
  split at h
  · rename_i e; exact ⟨h, e⟩
  · cases h
theorem hide_same {H : Hp} {ω : Om} : Same (hide H ω) H := fun a o h => (hide_some h).1

theorem same_sqT {K : PySem.W.Frag} {H H' : Hp} {a : Addr} {xs : List V} (e : Same H H') (h : SqT K H a xs) : SqT K H' a xs := by
  rcases h with (h | ⟨o, h⟩) | h
  · exact .inl (.inl (e _ _ h))
  · exact .inl (.inr ⟨o, e _ _ h⟩)
  · exact .inr h
/-! data, part by part: lists are tracked (or known), tuples may be of the written part too -/
mutual
inductive Dq (K : PySem.W.Frag) (H : Hp) : V → PyData → Prop
  | non : Dq K H .non .none
  | bl (b : Bool) : Dq K H (.bl b) (.bool b)
  | int (i : Int) : Dq K H (.int i) (.int i)
  | str (x : Str) (ok : PyData.strOk x = true) : Dq K H (.str x) (.str x)
  | lst {a : Addr} {xs : List V} {ds : List PyData} : Rd H a (.lst xs) → DqAll K H xs ds → Dq K H (.ref a) (.list ds)
  | tup {a : Addr} {xs : List V} {ds : List PyData} : SqT K H a xs → DqAll K H xs ds → Dq K H (.ref a) (.tuple ds)
inductive DqAll (K : PySem.W.Frag) (H : Hp) : List V → List PyData → Prop
  | nil : DqAll K H [] []
  | cons {v : V} {vs : List V} {d : PyData} {ds : List PyData} : Dq K H v d → DqAll K H vs ds → DqAll K H (v :: vs) (d :: ds)
end
mutual
theorem dq_dp {K : PySem.W.Frag} {H : Hp} : ∀ (d : D) (v : V), Dq K H v d → Dp K H v d
  | .none, _, h => by cases h; exact .non
  | .bool b, _, h => by cases h; exact .bl b
  | .int i, _, h => by cases h; exact .int i
  | .str x, _, h => by cases h; exact .str x
  | .list ds, _, h => by
    cases h with
    | lst q a => exact .lst (.inl q) (dqs_dps ds _ a)
  | .tuple ds, _, h => by
    cases h with
    | tup q a => exact .tup q (dqs_dps ds _ a)
  | .dict _, _, h => by cases h
theorem dqs_dps {K : PySem.W.Frag} {H : Hp} : ∀ (ds : List D) (vs : List V), DqAll K H vs ds → DpAll K H vs ds
  | [], _, h => by cases h; exact .nil
  | d :: ds, _, h => by
    cases h with
    | cons a b => exact .cons (dq_dp d _ a) (dqs_dps ds _ b)
end
theorem rd_mono {H H' : Hp} {a : Addr} {u : HO} (e : Same H H') (h : Rd H a u) : Rd H' a u := by
  rcases h with h | ⟨o, h⟩
  · exact .inl (e _ _ h)
  · exact .inr ⟨o, e _ _ h⟩
mutual
theorem dp_mono {K : PySem.W.Frag} {H H' : Hp} (s : Same H H') : ∀ (d : D) (v : V), Dq K H v d → Dq K H' v d
  | .none, _, h => by cases h; exact .non
  | .bool b, _, h => by cases h; exact .bl b
  | .int i, _, h => by cases h; exact .int i
  | .str x, _, h => by cases h with | str _ ok => exact .str x ok
  | .list ds, _, h => by
    cases h with
    | lst q a => exact .lst (rd_mono s q) (dps_mono s ds _ a)
  | .tuple ds, _, h => by
    cases h with
    | tup q a => exact .tup (same_sqT s q) (dps_mono s ds _ a)
  | .dict _, _, h => by cases h
theorem dps_mono {K : PySem.W.Frag} {H H' : Hp} (s : Same H H') : ∀ (ds : List D) (vs : List V), DqAll K H vs ds → DqAll K H' vs ds
  | [], _, h => by cases h; exact .nil
  | d :: ds, _, h => by
    cases h with
    | cons a b => exact .cons (dp_mono s d _ a) (dps_mono s ds _ b)
end
theorem dps_len {K : PySem.W.Frag} {H : Hp} : ∀ {vs : List V} {ds : List D}, DqAll K H vs ds → vs.length = ds.length
  | [], [], _ => rfl
  | _ :: _, _ :: _, .cons _ b => by rw [List.length_cons, List.length_cons, dps_len b]
theorem dps_get {K : PySem.W.Frag} {H : Hp} : ∀ {vs : List V} {ds : List D} {i : Nat} {v : V}, DqAll K H vs ds → vs[i]? = some v → ∃ d, ds[i]? = some d ∧ Dq K H v d
  | _, _, _, _, .nil, e => by simp at e
  | _, _, 0, _, .cons a _, e => by simp at e; subst e; exact ⟨_, rfl, a⟩
  | _, _, i + 1, _, .cons _ b, e => by simpa using dps_get (i := i) b (by simpa using e)
theorem dps_get' {K : PySem.W.Frag} {H : Hp} : ∀ {vs : List V} {ds : List D} {i : Nat} {d : D}, DqAll K H vs ds → ds[i]? = some d → ∃ v, vs[i]? = some v ∧ Dq K H v d
  | _, _, _, _, .nil, e => by simp at e
  | _, _, 0, _, .cons a _, e => by simp at e; subst e; exact ⟨_, rfl, a⟩
  | _, _, i + 1, _, .cons _ b, e => by simpa using dps_get' (i := i) b (by simpa using e)
theorem dps_app {K : PySem.W.Frag} {H : Hp} : ∀ {vs us : List V} {ds es : List D}, DqAll K H vs ds → DqAll K H us es → DqAll K H (vs ++ us) (ds ++ es)
  | _, _, _, _, .nil, h => h
  | _, _, _, _, .cons a b, h => .cons a (dps_app b h)
theorem dps_take {K : PySem.W.Frag} {H : Hp} : ∀ {vs : List V} {ds : List D} (n : Nat), DqAll K H vs ds → DqAll K H (vs.take n) (ds.take n)
  | _, _, 0, _ => by simp; exact .nil
  | _, _, _ + 1, .nil => .nil
  | _, _, n + 1, .cons a b => .cons a (dps_take n b)
theorem dps_drop {K : PySem.W.Frag} {H : Hp} : ∀ {vs : List V} {ds : List D} (n : Nat), DqAll K H vs ds → DqAll K H (vs.drop n) (ds.drop n)
  | _, _, 0, h => h
  | _, _, _ + 1, .nil => .nil
  | _, _, n + 1, .cons _ b => dps_drop n b
theorem dps_rev {K : PySem.W.Frag} {H : Hp} : ∀ {vs : List V} {ds : List D}, DqAll K H vs ds → DqAll K H vs.reverse ds.reverse
  | _, _, .nil => .nil
  | _, _, .cons a b => by
    rw [List.reverse_cons, List.reverse_cons]
    exact dps_app (dps_rev b) (.cons a .nil)
theorem dps_set {K : PySem.W.Frag} {H : Hp} {v : V} {d : D} (h : Dq K H v d) : ∀ {vs : List V} {ds : List D} (i : Nat), DqAll K H vs ds → DqAll K H (vs.set i v) (ds.set i d)
  | _, _, _, .nil => .nil
  | _, _, 0, .cons _ b => .cons h b
  | _, _, i + 1, .cons a b => .cons a (dps_set h i b)

/-- all owned addresses are tracked -/
noncomputable def Dom (ω : Om) (H : Hp) : Prop := ∀ a q, ω a = some q → H a ≠ none
theorem Dom.free {ω : Om} {H : Hp} (d : Dom ω H) {a : Addr} (h : H a = none) : ω a = none := by
  cases e : ω a with
  | none => rfl
  | some q => exact absurd h (d a q e)
/-- what an evaluation at level n does to heap and owners -/
structure Stp (n : Nat) (ω : Om) (H : Hp) (ω' : Om) (H' : Hp) : Prop where
  keep : ∀ a o, H a = some o → (∀ x k, ω a ≠ some (.obj x k)) → H' a = some o
  free : ∀ a, H a ≠ none → ω a = none → ω' a = none
  own : ∀ a q, ω a = some q → ω' a = some q ∨ (∃ m i, q = .slot m i ∧ m ≤ n ∧ ω' a = none)
  grow : ∀ a, H a ≠ none → H' a ≠ none
  dom : Dom ω H
  dom' : Dom ω' H'
theorem Stp.refl {n : Nat} {ω : Om} {H : Hp} (d : Dom ω H) : Stp n ω H ω H := ⟨fun _ _ h _ => h, fun _ _ h => h, fun _ _ h => .inl h, fun _ h => h, d, d⟩
theorem Stp.trans {n : Nat} {ω ω1 ω2 : Om} {H H1 H2 : Hp} (a : Stp n ω H ω1 H1) (b : Stp n ω1 H1 ω2 H2) : Stp n ω H ω2 H2 := by
  refine ⟨fun x o h k => ?_, fun x h k => b.free x (a.grow x h) (a.free x h k), fun x q h => ?_, fun x h => b.grow x (a.grow x h), a.dom, b.dom'⟩
  · refine b.keep x o (a.keep x o h k) fun y k' e => ?_
    cases q : ω x with
    | none => rw [a.free x (by rw [h]; simp) q] at e; cases e
    | some q' =>
      rcases a.own x q' q with e1 | ⟨_, _, _, _, e1⟩
      · rw [e1] at e; cases e; exact k y k' q
      · rw [e1] at e; cases e
  · rcases a.own x q h with e1 | ⟨m, i, hq, hm, e1⟩
    · exact b.own x q e1
    · exact .inr ⟨m, i, hq, hm, b.free x (a.grow x (a.dom x q h)) e1⟩
theorem Stp.mono {n m : Nat} {ω ω' : Om} {H H' : Hp} (a : Stp n ω H ω' H') (h : n ≤ m) : Stp m ω H ω' H' :=
  ⟨a.keep, a.free, fun x q e => (a.own x q e).elim .inl fun ⟨k, i, h1, h2, h3⟩ => .inr ⟨k, i, h1, Nat.le_trans h2 h, h3⟩, a.grow, a.dom, a.dom'⟩
/-- what is frozen stays -/
theorem Stp.same {n : Nat} {ω ω' : Om} {H H' : Hp} (a : Stp n ω H ω' H') : Same (hide H ω) (hide H' ω') := fun x o h => by
  obtain ⟨h1, h2⟩ := hide_some h
  rw [hide_free (a.free x (by rw [h1]; simp) h2)]
  exact a.keep x o h1 fun y _ e => by rw [h2] at e; cases e
/-- a new object that nobody owns -/
theorem Stp.new {n : Nat} {ω : Om} {H : Hp} {p : Addr} {o : HO} (d : Dom ω H) (h : H p = none) : Stp n ω H ω (upd H p o) := by
  refine ⟨fun a o' e _ => by rw [upd_ne (ne_of_none e h)]; exact e, fun _ _ e => e, fun _ _ e => .inl e, fun a e => ?_, d, fun a q e => ?_⟩
  · by_cases z : a = p
    · rw [z, upd_same]; simp
    · rw [upd_ne z]; exact e
  · by_cases z : a = p
    · rw [z, upd_same]; simp
    · rw [upd_ne z]; exact d a q e
/-- one owner is set -/
noncomputable def setO (ω : Om) (a : Addr) (q : Option Ow) : Om := fun b => if b = a then q else ω b
theorem setO_same {ω : Om} {a : Addr} {q : Option Ow} : setO ω a q a = q := by unfold setO; rw [if_pos rfl]
theorem setO_ne {ω : Om} {a b : Addr} {q : Option Ow} (h : b ≠ a) : setO ω a q b = ω b := by unfold setO; rw [if_neg h]
/-- a new object, owned -/
theorem Stp.newO {n : Nat} {ω : Om} {H : Hp} {p : Addr} {o : HO} {q : Ow} (d : Dom ω H) (h : H p = none) : Stp n ω H (setO ω p (some q)) (upd H p o) := by
  have hf := d.free h
  refine ⟨fun a o' e _ => by rw [upd_ne (ne_of_none e h)]; exact e, fun a e k => ?_, fun a q' e => .inl ?_, fun a e => ?_, d, fun a q' e => ?_⟩
  · rw [setO_ne (fun z => e (by rw [z]; exact h))]; exact k
  · rw [setO_ne (fun z => by rw [z, hf] at e; cases e)]; exact e
  · by_cases z : a = p
    · rw [z, upd_same]; simp
    · rw [upd_ne z]; exact e
  · by_cases z : a = p
    · rw [z, upd_same]; simp
    · rw [setO_ne z] at e; rw [upd_ne z]; exact d a q' e
theorem hide_new {ω : Om} {H : Hp} {p : Addr} {o : HO} (d : Dom ω H) (h : H p = none) : Same (hide H ω) (hide (upd H p o) ω) := (Stp.new (n := 0) d h).same

/-- how an error lies: its own dict -/
noncomputable def PayH (K : PySem.W.Frag) (x : Exn) (d : Option Addr) (h : Hp) : Prop := match x.p with
  | none => d = none
  | some p => ∃ dd v, d = some dd ∧ h dd = some (.xd [(xf x.c, v)]) ∧ Dq K h v p
theorem PayH.mono {K : PySem.W.Frag} {x : Exn} {d : Option Addr} {h h' : Hp} (q : PayH K x d h) (s : Same h h') : PayH K x d h' := by
  obtain ⟨c, p⟩ := x
  cases p with
  | none => exact q
  | some p =>
    obtain ⟨dd, v, e, h1, h2⟩ := q
    exact ⟨dd, v, e, s _ _ h1, dp_mono s _ _ h2⟩
/-- a level, what is known of caught errors, where classes of objects stand -/
structure OC where
  at_ : Str → Addr
  kn : Str → List Str → Prop
structure Lv where
  n : Nat
  ex : Addr → XC → Option Addr → Prop
  oc : OC
/-- the entry of a frame at level n; the object that it was lent -/
structure Gh where
  H0 : Hp
  ω0 : Om
  L : Option Addr
/-- what fields hold -/
noncomputable def FOk (K : PySem.W.Frag) (ω : Om) (H : Hp) (a : Addr) (k : Nat) (v : V) : FW → Prop
  | .opq => True
  | .val d => Dq K (hide H ω) v d
  | .own ds => ∃ b vs, v = .ref b ∧ ω b = some (.obj a k) ∧ H b = some (.lst vs) ∧ DqAll K (hide H ω) vs ds
inductive FldOk (K : PySem.W.Frag) (ω : Om) (H : Hp) (a : Addr) : Nat → List (Str × V) → List (Str × FW) → Prop
  | nil {k : Nat} : FldOk K ω H a k [] []
  | cons {k : Nat} {f : Str} {v : V} {w : FW} {r : List (Str × V)} {r' : List (Str × FW)} : FOk K ω H a k v w → FldOk K ω H a (k + 1) r r' → FldOk K ω H a k ((f, v) :: r) ((f, w) :: r')
/-- an object as it lies -/
noncomputable def OAt (oc : OC) (K : PySem.W.Frag) (ω : Om) (H : Hp) (a : Addr) (o : Ob) : Prop :=
  ω a = some (.obj a 0) ∧ ∃ dx fs, H a = some (.ins (oc.at_ o.c) dx fs) ∧ FldOk K ω H a 1 fs o.fs ∧ oc.kn o.c (o.fs.map (·.1))
/-- a lent list as it lies -/
noncomputable def LAt (K : PySem.W.Frag) (ω : Om) (H : Hp) (a : Addr) (ds : List D) : Prop := ω a = some (.obj a 0) ∧ ∃ vs, H a = some (.lst vs) ∧ DqAll K (hide H ω) vs ds
noncomputable def SlotOk (n : Lv) (K : PySem.W.Frag) (G : Gh) (ω : Om) (σ : L2.St) (H : Hp) (i : Nat) : W → Prop
  | .val d => ∃ v, σ[i]? = some (some v) ∧ Dq K (hide H ω) v d
  | .own ds => ∃ a vs, σ[i]? = some (some (.ref a)) ∧ ω a = some (.slot n.n i) ∧ G.H0 a = none ∧ H a = some (.lst vs) ∧ DqAll K (hide H ω) vs ds
  | .exc c p => ∃ b d, σ[i]? = some (some (.ref b)) ∧ n.ex b c d ∧ PayH K ⟨c, p⟩ d (hide H ω)
  | .obj o => ∃ a, σ[i]? = some (some (.ref a)) ∧ ((G.L = some a ∧ i = 0) ∨ (G.H0 a = none ∧ i ≠ 0)) ∧ OAt n.oc K ω H a o
  | .lnt b ds => ∃ a, σ[i]? = some (some (.ref a)) ∧ ((G.L = some a ∧ b = true) ∨ (G.H0 a = none ∧ b = false)) ∧ LAt K ω H a ds
/-- the cells of objects stay, but for one -/
noncomputable def OKeep (L : Option Addr) (ω : Om) (H H' : Hp) : Prop := ∀ a o x k, ω a = some (.obj x k) → H x ≠ none → some x ≠ L → H a = some o → H' a = some o
theorem OKeep.refl {L : Option Addr} {ω : Om} {H : Hp} : OKeep L ω H H := fun _ _ _ _ _ _ _ h => h
theorem OKeep.weak {L : Option Addr} {ω : Om} {H H' : Hp} (h : OKeep none ω H H') : OKeep L ω H H' := fun a o x k e1 e2 _ e4 => h a o x k e1 e2 (fun z => by cases z) e4
theorem OKeep.trans {n : Nat} {L : Option Addr} {ω ω' : Om} {H H1 H2 : Hp} (a : OKeep L ω H H1) (s : Stp n ω H ω' H1) (b : OKeep L ω' H1 H2) : OKeep L ω H H2 := fun x o y k e1 e2 e3 e4 => by
  refine b x o y k ?_ (s.grow y e2) e3 (a x o y k e1 e2 e3 e4)
  rcases s.own x _ e1 with z | ⟨_, _, z, _⟩
  · exact z
  · cases z
theorem OKeep.new {L : Option Addr} {ω : Om} {H : Hp} {p : Addr} {o : HO} (h : H p = none) : OKeep L ω H (upd H p o) := fun a o' x k _ _ _ e => by rw [upd_ne (ne_of_none e h)]; exact e
/-- the evaluator's state stands for slots and heap -/
structure Rel (n : Lv) (K : PySem.W.Frag) (G : Gh) (ω : Om) (σ : L2.St) (H : Hp) (c : Cfg) : Prop where
  stp : Stp n.n G.ω0 G.H0 ω H
  slot : ∀ i w, getS c i = some w → SlotOk n K G ω σ H i w
  len : c.env.length = σ.length
  okp : OKeep G.L G.ω0 G.H0 H
theorem Rel.dom {n : Lv} {K : PySem.W.Frag} {G : Gh} {ω : Om} {σ : L2.St} {H : Hp} {c : Cfg} (r : Rel n K G ω σ H c) : Dom ω H := r.stp.dom'
/-- from one heap to another -/
structure Mv (n i : Nat) (ω : Om) (H : Hp) (ω' : Om) (H' : Hp) : Prop where
  sm : Same (hide H ω) (hide H' ω')
  ow : ∀ a vs, ω a = some (.slot n i) → H a = some (.lst vs) → ω' a = some (.slot n i) ∧ H' a = some (.lst vs)
  ob : ∀ a x k o, ω a = some (.obj x k) → H x ≠ none → H a = some o → ω' a = some (.obj x k) ∧ H' a = some o
theorem FldOk.move {K : PySem.W.Frag} {ω ω' : Om} {H H' : Hp} {a : Addr} (sm : Same (hide H ω) (hide H' ω')) (ob : ∀ b k o, ω b = some (.obj a k) → H b = some o → ω' b = some (.obj a k) ∧ H' b = some o) {k : Nat} {fs : List (Str × V)} {ws : List (Str × FW)} (h : FldOk K ω H a k fs ws) : FldOk K ω' H' a k fs ws := by
  induction h with
  | nil => exact .nil
  | @cons k f v w r r' h _ ih =>
    refine .cons ?_ ih
    cases w with
    | opq => trivial
    | val d => exact dp_mono sm _ _ h
    | own ds =>
      obtain ⟨b, vs, e, o, h1, q⟩ := h
      obtain ⟨z1, z2⟩ := ob b k _ o h1
      exact ⟨b, vs, e, z1, z2, dps_mono sm _ _ q⟩
theorem OAt.move {oc : OC} {K : PySem.W.Frag} {ω ω' : Om} {H H' : Hp} {a : Addr} {o : Ob} (h : OAt oc K ω H a o) (sm : Same (hide H ω) (hide H' ω')) (ob : ∀ b k o, ω b = some (.obj a k) → H a ≠ none → H b = some o → ω' b = some (.obj a k) ∧ H' b = some o) : OAt oc K ω' H' a o := by
  obtain ⟨h1, dx, fs, h2, h3, h4⟩ := h
  have na : H a ≠ none := by rw [h2]; simp
  obtain ⟨z1, z2⟩ := ob a 0 _ h1 na h2
  exact ⟨z1, dx, fs, z2, h3.move sm (fun b k o e1 e2 => ob b k o e1 na e2), h4⟩
theorem LAt.move {K : PySem.W.Frag} {ω ω' : Om} {H H' : Hp} {a : Addr} {ds : List D} (h : LAt K ω H a ds) (sm : Same (hide H ω) (hide H' ω')) (ob : ∀ b k o, ω b = some (.obj a k) → H a ≠ none → H b = some o → ω' b = some (.obj a k) ∧ H' b = some o) : LAt K ω' H' a ds := by
  obtain ⟨h1, vs, h2, h3⟩ := h
  obtain ⟨z1, z2⟩ := ob a 0 _ h1 (by rw [h2]; simp) h2
  exact ⟨z1, vs, z2, dps_mono sm _ _ h3⟩
theorem SlotOk.move {n : Lv} {K : PySem.W.Frag} {G : Gh} {ω ω' : Om} {σ : L2.St} {H H' : Hp} {i : Nat} {w : W} (h : SlotOk n K G ω σ H i w) (m : Mv n.n i ω H ω' H') : SlotOk n K G ω' σ H' i w := by
  cases w with
  | val d => obtain ⟨v, e, r⟩ := h; exact ⟨v, e, dp_mono m.sm _ _ r⟩
  | own ds =>
    obtain ⟨a, vs, e, o, h0, h1, r⟩ := h
    obtain ⟨z1, z2⟩ := m.ow a vs o h1
    exact ⟨a, vs, e, z1, h0, z2, dps_mono m.sm _ _ r⟩
  | exc _ _ => obtain ⟨b, d, e, x, y⟩ := h; exact ⟨b, d, e, x, y.mono m.sm⟩
  | obj o => obtain ⟨a, e, g, h⟩ := h; exact ⟨a, e, g, h.move m.sm fun b k o => m.ob b a k o⟩
  | lnt b ds => obtain ⟨a, e, g, h⟩ := h; exact ⟨a, e, g, h.move m.sm fun b k o => m.ob b a k o⟩
theorem Rel.move {n : Lv} {K : PySem.W.Frag} {G : Gh} {ω ω' : Om} {σ : L2.St} {H H' : Hp} {c : Cfg} (R : Rel n K G ω σ H c) (s : Stp n.n ω H ω' H') (k : OKeep none ω H H') (m : ∀ i, Mv n.n i ω H ω' H') : Rel n K G ω' σ H' c :=
  ⟨R.stp.trans s, fun i w e => (R.slot i w e).move (m i), R.len, R.okp.trans R.stp k.weak⟩
theorem Mv.of {n m i : Nat} {ω ω' : Om} {H H' : Hp} (s : Stp m ω H ω' H') (hm : m < n) (k : OKeep none ω H H') : Mv n i ω H ω' H' := by
  refine ⟨s.same, fun a vs o h => ⟨?_, s.keep a _ h fun x j z => by rw [o] at z; cases z⟩, fun a x j o e1 e2 e3 => ⟨?_, k a o x j e1 e2 (fun z => by cases z) e3⟩⟩
  · rcases s.own a _ o with z | ⟨m', i', z, hm', _⟩
    · exact z
    · cases z; omega
  · rcases s.own a _ e1 with z | ⟨_, _, z, _⟩
    · exact z
    · cases z
theorem Mv.new {n i : Nat} {ω : Om} {H : Hp} {p : Addr} {o : HO} (d : Dom ω H) (h : H p = none) : Mv n i ω H ω (upd H p o) :=
  ⟨hide_new d h, fun a vs e h1 => ⟨e, by rw [upd_ne (ne_of_none h1 h)]; exact h1⟩, fun a x k o' e _ h1 => ⟨e, by rw [upd_ne (ne_of_none h1 h)]; exact h1⟩⟩
theorem Mv.newO {n i : Nat} {ω : Om} {H : Hp} {p : Addr} {o : HO} {q : Ow} (d : Dom ω H) (h : H p = none) : Mv n i ω H (setO ω p (some q)) (upd H p o) :=
  ⟨(Stp.newO (n := 0) d h).same, fun a vs e h1 => ⟨by rw [setO_ne (ne_of_none h1 h)]; exact e, by rw [upd_ne (ne_of_none h1 h)]; exact h1⟩, fun a x k o' e _ h1 => ⟨by rw [setO_ne (ne_of_none h1 h)]; exact e, by rw [upd_ne (ne_of_none h1 h)]; exact h1⟩⟩
/-- behind a step of a deeper level -/
theorem Rel.step {n : Lv} {m : Nat} {K : PySem.W.Frag} {G : Gh} {ω ω' : Om} {σ : L2.St} {H H' : Hp} {c : Cfg} (r : Rel n K G ω σ H c) (s : Stp m ω H ω' H') (hm : m < n.n) (k : OKeep none ω H H') : Rel n K G ω' σ H' c :=
  r.move (s.mono (Nat.le_of_lt hm)) k fun i => Mv.of s hm k
/-- a new object that nobody owns -/
theorem Rel.new {n : Lv} {K : PySem.W.Frag} {G : Gh} {ω : Om} {σ : L2.St} {H : Hp} {c : Cfg} {p : Addr} {o : HO} (r : Rel n K G ω σ H c) (h : H p = none) : Rel n K G ω σ (upd H p o) c :=
  r.move (Stp.new r.dom h) (OKeep.new h) fun i => Mv.new r.dom h
/-- a new object, owned by tmp -/
theorem Rel.newT {n : Lv} {K : PySem.W.Frag} {G : Gh} {ω : Om} {σ : L2.St} {H : Hp} {c : Cfg} {p : Addr} {o : HO} (r : Rel n K G ω σ H c) (h : H p = none) : Rel n K G (setO ω p (some .tmp)) σ (upd H p o) c :=
  r.move (Stp.newO r.dom h) (OKeep.new h) fun i => Mv.newO r.dom h

/-! ### values -/
noncomputable def RV (K : PySem.W.Frag) (ω : Om) (H : Hp) (v : V) (d : D) : Prop := Dq K (hide H ω) v d
/-- may be read now -/
noncomputable def RP (K : PySem.W.Frag) (ω : Om) (H : Hp) (v : V) (d : D) : Prop := Dq K (hide H ω) v d ∨ ∃ ds a vs, d = .list ds ∧ v = .ref a ∧ H a = some (.lst vs) ∧ (∀ x k, ω a ≠ some (.obj x k)) ∧ DqAll K (hide H ω) vs ds
/-- the result of an expression; Hs: the heap ahead of it -/
noncomputable def RW (K : PySem.W.Frag) (Hs : Hp) (ω : Om) (H : Hp) (v : V) : W → Prop
  | .val d => Dq K (hide H ω) v d
  | .own ds => ∃ a vs, v = .ref a ∧ ω a = some .tmp ∧ Hs a = none ∧ H a = some (.lst vs) ∧ DqAll K (hide H ω) vs ds
  | .exc _ _ => False
  | .obj _ => False
  | .lnt _ _ => False
theorem RV.step {K : PySem.W.Frag} {n : Nat} {ω ω' : Om} {H H' : Hp} {v : V} {d : D} (h : RV K ω H v d) (s : Stp n ω H ω' H') : RV K ω' H' v d := dp_mono s.same _ _ h
theorem RP.step {K : PySem.W.Frag} {n : Nat} {ω ω' : Om} {H H' : Hp} {v : V} {d : D} (h : RP K ω H v d) (s : Stp n ω H ω' H') : RP K ω' H' v d := by
  rcases h with h | ⟨ds, a, vs, e1, e2, h1, h2, h3⟩
  · exact .inl (dp_mono s.same _ _ h)
  · refine .inr ⟨ds, a, vs, e1, e2, s.keep a _ h1 h2, fun x k z => ?_, dps_mono s.same _ _ h3⟩
    cases q : ω a with
    | none => rw [s.free a (by rw [h1]; simp) q] at z; cases z
    | some q' =>
      rcases s.own a q' q with z1 | ⟨_, _, _, _, z1⟩
      · rw [z1] at z; cases z; exact h2 x k q
      · rw [z1] at z; cases z
/-- it is data in the heap at hand -/
theorem RP.dp {K : PySem.W.Frag} {ω : Om} {H : Hp} {v : V} {d : D} (h : RP K ω H v d) : Dq K H v d := by
  rcases h with h | ⟨ds, a, vs, rfl, rfl, h1, _, h3⟩
  · exact dp_mono hide_same _ _ h
  · exact .lst (Rd.of h1) (dps_mono hide_same _ _ h3)
/-- its items -/
theorem RP.list {K : PySem.W.Frag} {ω : Om} {H : Hp} {v : V} {ds : List D} (h : RP K ω H v (.list ds)) : ∃ a vs, v = .ref a ∧ Rd H a (.lst vs) ∧ DqAll K (hide H ω) vs ds := by
  rcases h with h | ⟨ds', a, vs, e, rfl, h1, _, h3⟩
  · cases h with
    | lst q r => exact ⟨_, _, rfl, rd_mono hide_same q, r⟩
  · cases e; exact ⟨a, vs, rfl, Rd.of h1, h3⟩
theorem RP.tuple {K : PySem.W.Frag} {ω : Om} {H : Hp} {v : V} {ds : List D} (h : RP K ω H v (.tuple ds)) : ∃ a vs, v = .ref a ∧ SqT K H a vs ∧ DqAll K (hide H ω) vs ds := by
  rcases h with h | ⟨ds', a, vs, e, _⟩
  · cases h with
    | tup q r => exact ⟨_, _, rfl, same_sqT hide_same q, r⟩
  · cases e
theorem RP.int {K : PySem.W.Frag} {ω : Om} {H : Hp} {v : V} {i : Int} (h : RP K ω H v (.int i)) : v = .int i := by
  rcases h with h | ⟨ds', a, vs, e, _⟩
  · cases h; rfl
  · cases e
theorem RP.str {K : PySem.W.Frag} {ω : Om} {H : Hp} {v : V} {i : Str} (h : RP K ω H v (.str i)) : v = .str i := by
  rcases h with h | ⟨ds', a, vs, e, _⟩
  · cases h; rfl
  · cases e
theorem RP.strOk {K : PySem.W.Frag} {ω : Om} {H : Hp} {v : V} {i : Str} (h : RP K ω H v (.str i)) : PyData.strOk i = true := by
  rcases h with h | ⟨ds', a, vs, e, _⟩
  · cases h with | str _ ok => exact ok
  · cases e
theorem RP.bool {K : PySem.W.Frag} {ω : Om} {H : Hp} {v : V} {i : Bool} (h : RP K ω H v (.bool i)) : v = .bl i := by
  rcases h with h | ⟨ds', a, vs, e, _⟩
  · cases h; rfl
  · cases e
inductive RPs (K : PySem.W.Frag) (ω : Om) (H : Hp) : List V → List D → Prop
  | nil : RPs K ω H [] []
  | cons {v : V} {vs : List V} {d : D} {ds : List D} : RP K ω H v d → RPs K ω H vs ds → RPs K ω H (v :: vs) (d :: ds)
end Rp

/-! Rp, part 2: readings of evaluations. -/
namespace Rp
open PySem PySem.Spec PyProof.Rows L2

/-- a program: its defs, their names, what classes and constants are worth -/
structure Pr where
  tab : Nat → Option Fn
  name : Nat → Str
  cls : XC → Value
  cst : List (Str × D)
  kn : XC → Prop
  oc : OC
/-- where one stands: level m + 1, callees at level m; W: what is wanted of an error -/
structure C0 where
  T : Pr
  m : Nat
  K : PySem.W.Frag
  W : WX
  ex : Addr → XC → Option Addr → Prop
noncomputable abbrev C0.n (C : C0) : Lv := ⟨C.m + 1, C.ex, C.T.oc⟩
noncomputable abbrev C0.l (C : C0) : Nat := C.m + 1
noncomputable abbrev C0.k (C : C0) : Call := callN C.T.tab C.m

/-- how an error lies: its own dict -/
noncomputable abbrev Pay (T : Pr) (K : PySem.W.Frag) (x : Exn) (d : Option Addr) (ω : Om) (H : Hp) : Prop := T.kn x.c ∧ PayH K x d (hide H ω)

section
variable {α β γ δ : Type}
/-- what follows of an evaluation -/
noncomputable def Post (C : C0) (G : Gh) (σ : L2.St) (ω : Om) (H : Hp) (r : Rs α) (rel : Hp → Om → Hp → β → α → Prop) (Q : β → Hp → Prop) : Prop := match r with
  | .ok a c => ∀ ω' H' v, Stp C.l ω H ω' H' → Rel C.n C.K G ω' σ H' c → rel H ω' H' v a → Q v H'
  | .ex x c => ∀ ω' H' d, Stp C.l ω H ω' H' → Rel C.n C.K G ω' σ H' c → Pay C.T C.K x d ω' H' → C.W (C.T.cls x.c) d σ H'
  | .no => False
/-- the reading of an evaluation -/
noncomputable def tG (C : C0) (run : Cfg → Rs α) (rel : Hp → Om → Hp → β → α → Prop) : L2.St → Hp → (β → Hp → Prop) → Prop := fun σ H Q => ∃ G ω c, Rel C.n C.K G ω σ H c ∧ Post C G σ ω H (run c) rel Q
/-- the heap ahead may be taken earlier -/
class RM (rel : Hp → Om → Hp → β → α → Prop) : Prop where
  mono : ∀ H H1 ω' H' v a, (∀ x, H x ≠ none → H1 x ≠ none) → rel H1 ω' H' v a → rel H ω' H' v a
variable {C : C0} {G : Gh} {σ : L2.St} {ω ω1 : Om} {H H1 : Hp}
theorem Post.step {r : Rs α} {rel : Hp → Om → Hp → β → α → Prop} [i : RM rel] {Q : β → Hp → Prop} (h : Post C G σ ω H r rel Q) (s : Stp C.l ω H ω1 H1) : Post C G σ ω1 H1 r rel Q := by
  cases r with
  | ok a c => exact fun ω' H' v s' R q => h ω' H' v (s.trans s') R (i.mono H H1 ω' H' v a s.grow q)
  | ex x c => exact fun ω' H' d s' R q => h ω' H' d (s.trans s') R q
  | no => exact h
/-- one after another -/
theorem Post.bind {r : Rs α} {k : α → Cfg → Rs γ} {rel : Hp → Om → Hp → δ → γ → Prop} [i : RM rel] {Q : δ → Hp → Prop} {rel1 : Hp → Om → Hp → β → α → Prop} {Q1 : β → Hp → Prop} (h : Post C G σ ω H (r.bind k) rel Q)
    (f : ∀ a c1 ω1 H1 v, r = .ok a c1 → Stp C.l ω H ω1 H1 → Rel C.n C.K G ω1 σ H1 c1 → rel1 H ω1 H1 v a → Post C G σ ω1 H1 (k a c1) rel Q → Q1 v H1) : Post C G σ ω H r rel1 Q1 := by
  cases r with
  | ok a c => exact fun ω' H' v s R q => f a c ω' H' v rfl s R q (Post.step (r := k a c) h s)
  | ex x c => exact h
  | no => exact h
theorem Post.mono {r : Rs α} {rel : Hp → Om → Hp → β → α → Prop} {Q Q' : β → Hp → Prop} (h : Post C G σ ω H r rel Q) (f : ∀ v H', Q v H' → Q' v H') : Post C G σ ω H r rel Q' := by
  cases r with
  | ok a c => exact fun ω' H' v s R q => f _ _ (h ω' H' v s R q)
  | ex x c => exact h
  | no => exact h
/-- the same by another relation -/
theorem Post.rel {r : Rs α} {rel rel' : Hp → Om → Hp → β → α → Prop} {Q : β → Hp → Prop} (h : Post C G σ ω H r rel Q) (f : ∀ ω' H' v a, rel' H ω' H' v a → rel H ω' H' v a) : Post C G σ ω H r rel' Q := by
  cases r with
  | ok a c => exact fun ω' H' v s R q => h ω' H' v s R (f _ _ _ _ q)
  | ex x c => exact h
  | no => exact h
end

noncomputable def rW (K : PySem.W.Frag) : Hp → Om → Hp → V → W → Prop := fun Hs ω H v w => RW K Hs ω H v w
noncomputable def rV (K : PySem.W.Frag) : Hp → Om → Hp → V → D → Prop := fun _ ω H v d => RV K ω H v d
noncomputable def rP (K : PySem.W.Frag) : Hp → Om → Hp → V → D → Prop := fun _ ω H v d => RP K ω H v d
noncomputable def rT : Hp → Om → Hp → Bool → Bool → Prop := fun _ _ _ b t => b = t
noncomputable def rVs (K : PySem.W.Frag) : Hp → Om → Hp → List V → List D → Prop := fun _ ω H vs ds => DqAll K (hide H ω) vs ds
noncomputable def rPs (K : PySem.W.Frag) : Hp → Om → Hp → List V → List D → Prop := fun _ ω H vs ds => RPs K ω H vs ds
section
variable {K : PySem.W.Frag}
instance : RM (rW K) := ⟨fun H H1 ω' H' v a g h => by
  cases a with
  | val d => exact h
  | own ds =>
    obtain ⟨p, vs, h1, h2, h3, h4, h5⟩ := h
    refine ⟨p, vs, h1, h2, ?_, h4, h5⟩
    cases q : H p with
    | none => rfl
    | some o => exact absurd h3 (g p (by rw [q]; simp))
  | exc _ _ => exact h
  | obj _ => exact h
  | lnt _ _ => exact h⟩
instance : RM (rV K) := ⟨fun _ _ _ _ _ _ _ h => h⟩
instance : RM (rP K) := ⟨fun _ _ _ _ _ _ _ h => h⟩
instance : RM rT := ⟨fun _ _ _ _ _ _ _ h => h⟩
instance : RM (rVs K) := ⟨fun _ _ _ _ _ _ _ h => h⟩
instance : RM (rPs K) := ⟨fun _ _ _ _ _ _ _ h => h⟩
end

/-! ### the readings of a mini expression -/
noncomputable abbrev tW (C : C0) (m : Ex) : TE := tG C (den C.k m).v (rW C.K)
noncomputable abbrev tV (C : C0) (m : Ex) : TE := tG C (fun c => frzR ((den C.k m).v c)) (rV C.K)
noncomputable abbrev tP (C : C0) (m : Ex) : TE := tG C (fun c => peekR m c ((den C.k m).v c)) (rP C.K)
noncomputable abbrev tT (C : C0) (m : Ex) : TT := tG C (den C.k m).t rT
noncomputable abbrev tVs (C : C0) (ms : Exs) : TA := tG C (denVs C.k ms) (rVs C.K)
noncomputable abbrev tPs (C : C0) (ms : Exs) : TA := tG C (denPs C.k ms) (rPs C.K)

theorem pe_imp {X : Cx} {e : Expr} {t t' : TE} (h : PE X e t) (f : ∀ σ H Q, t' σ H Q → t σ H Q) : PE X e t' := ⟨fun pins s σ H Q I q => h.run pins s σ H Q I (f σ H Q q)⟩
theorem pt_imp {X : Cx} {e : Expr} {t t' : TT} (h : PT X e t) (f : ∀ σ H Q, t' σ H Q → t σ H Q) : PT X e t' := ⟨fun pins s σ H Q I q => h.run pins s σ H Q I (f σ H Q q)⟩
theorem pa_imp {X : Cx} {e : List Expr} {t t' : TA} (h : PA X e t) (f : ∀ σ H Q, t' σ H Q → t σ H Q) : PA X e t' := ⟨fun pos pins s σ H Q I q => h.run pos pins s σ H Q I (f σ H Q q)⟩

section
variable {C : C0} {G : Gh} {σ : L2.St} {ω : Om} {H : Hp} {c : Cfg} {Q : VK} {w : W}
/-- what is wanted of a result -/
noncomputable abbrev Wants (C : C0) (G : Gh) (σ : L2.St) (ω : Om) (H : Hp) (c : Cfg) (w : W) (Q : VK) : Prop := ∀ ω' H' v, Stp C.l ω H ω' H' → Rel C.n C.K G ω' σ H' c → rW C.K H ω' H' v w → Q v H'
theorem ret_val {v : V} {d : D} (R : Rel C.n C.K G ω σ H c) (h : Dq C.K (hide H ω) v d) (k : Wants C G σ ω H c (.val d) Q) : Q v H := k ω H v (Stp.refl R.dom) R h
theorem ret_tup {p : Addr} {vs : List V} {ds : List D} (R : Rel C.n C.K G ω σ H c) (hp : H p = none) (h : DqAll C.K (hide H ω) vs ds) (k : Wants C G σ ω H c (.val (.tuple ds)) Q) : Q (.ref p) (upd H p (.tup vs)) := by
  refine k ω (upd H p (.tup vs)) (.ref p) (Stp.new R.dom hp) (R.new hp) (.tup (SqT.of ?_) (dps_mono (hide_new R.dom hp) _ _ h))
  rw [hide_free (R.dom.free hp), upd_same]
theorem ret_own {p : Addr} {vs : List V} {ds : List D} (R : Rel C.n C.K G ω σ H c) (hp : H p = none) (h : DqAll C.K (hide H ω) vs ds) (k : Wants C G σ ω H c (.own ds) Q) : Q (.ref p) (upd H p (.lst vs)) :=
  k _ (upd H p (.lst vs)) (.ref p) (Stp.newO R.dom hp) (R.newT hp) ⟨p, vs, rfl, setO_same, hp, upd_same, dps_mono (Stp.newO (n := C.l) R.dom hp).same _ _ h⟩
end

/-! ### freezing -/
theorem setO_hide {ω : Om} {H : Hp} {a : Addr} : Same (hide H ω) (hide H (setO ω a none)) := fun b o h => by
  obtain ⟨h1, h2⟩ := hide_some h
  by_cases z : b = a
  · rw [hide_free (by rw [z, setO_same])]; exact h1
  · rw [hide_free (by rw [setO_ne z]; exact h2)]; exact h1
theorem Stp.thaw {n : Nat} {ωs ω : Om} {Hs H : Hp} {a : Addr} (s : Stp n ωs Hs ω H) (ha : Hs a = none) : Stp n ωs Hs (setO ω a none) H := by
  refine ⟨s.keep, fun b h e => ?_, fun b q e => ?_, s.grow, s.dom, fun b q e => ?_⟩
  · by_cases z : b = a
    · rw [z, setO_same]
    · rw [setO_ne z]; exact s.free b h e
  · have z : b ≠ a := fun z => s.dom b q e (by rw [z]; exact ha)
    rw [setO_ne z]; exact s.own b q e
  · by_cases z : b = a
    · rw [z, setO_same] at e; cases e
    · rw [setO_ne z] at e; exact s.dom' b q e
theorem Mv.tag {n i : Nat} {ω : Om} {H : Hp} {a : Addr} {q : Option Ow} (sm : Same (hide H ω) (hide H (setO ω a q))) (n1 : ω a ≠ some (.slot n i)) (n2 : ∀ x k, ω a ≠ some (.obj x k)) : Mv n i ω H (setO ω a q) H :=
  ⟨sm, fun b vs e h => ⟨by rw [setO_ne (fun z => n1 (by rw [← z]; exact e))]; exact e, h⟩, fun b x k o e _ h => ⟨by rw [setO_ne (fun z => n2 x k (by rw [← z]; exact e))]; exact e, h⟩⟩
theorem Rel.thaw {n : Lv} {K : PySem.W.Frag} {G : Gh} {ω : Om} {σ : L2.St} {H : Hp} {c : Cfg} {a : Addr} (R : Rel n K G ω σ H c) (h0 : G.H0 a = none) (o : ω a = some .tmp) : Rel n K G (setO ω a none) σ H c :=
  ⟨R.stp.thaw h0, fun i w e => (R.slot i w e).move (Mv.tag setO_hide (by rw [o]; intro z; cases z) (by rw [o]; intro x k z; cases z)), R.len, R.okp⟩
theorem Rel.old {n : Lv} {K : PySem.W.Frag} {G : Gh} {ω : Om} {σ : L2.St} {H : Hp} {c : Cfg} {a : Addr} (R : Rel n K G ω σ H c) (h : H a = none) : G.H0 a = none := by
  cases q : G.H0 a with
  | none => rfl
  | some o => exact absurd h (R.stp.grow a (by rw [q]; simp))
/-- the list of an own slot -/
theorem own_thaw {n : Nat} {K : PySem.W.Frag} {ω : Om} {H : Hp} {a : Addr} {vs : List V} {ds : List D} (h : H a = some (.lst vs)) (r : DqAll K (hide H ω) vs ds) : Dq K (hide H (setO ω a none)) (.ref a) (.list ds) :=
  .lst (Rd.of (by rw [hide_free setO_same]; exact h)) (dps_mono setO_hide _ _ r)

section
variable {C : C0} {X : Cx} {e : Expr} {m : Ex}
theorem frz_post {G : Gh} {σ : L2.St} {ω : Om} {H : Hp} {c : Cfg} {r : Rs W} {Q : VK} (R : Rel C.n C.K G ω σ H c) (h : Post C G σ ω H (frzR r) (rV C.K) Q) : Post C G σ ω H r (rW C.K) Q := by
  cases r with
  | no => exact h
  | ex x c => exact h
  | ok w c1 =>
    cases w with
    | val d => exact h
    | exc _ _ => exact h.elim
    | obj _ => exact h.elim
    | lnt _ _ => exact h.elim
    | own ds =>
      intro ω' H' v s R' q
      obtain ⟨a, vs, rfl, o, ha, h1, r⟩ := q
      exact h (setO ω' a none) H' (.ref a) (s.thaw ha) (R'.thaw (R.old ha) o) (own_thaw (n := 0) h1 r)
theorem pe_V (h : PE X e (tW C m)) : PE X e (tV C m) := pe_imp h fun σ H Q ⟨G, ω, c, R, p⟩ => ⟨G, ω, c, R, frz_post R p⟩
end

/-! ### slots -/
theorem getS_lt {c : Cfg} {i : Nat} {w : W} (h : getS c i = some w) : i < c.env.length := by
  unfold getS at h
  cases e : c.env[i]? with
  | none => rw [e] at h; cases h
  | some o => exact (List.getElem?_eq_some_iff.mp e).1
theorem getS_set {c : Cfg} {i : Nat} {w : Option W} (h : i < c.env.length) : getS (setS c i w) i = w := by
  unfold getS setS
  rw [List.getElem?_set_self h]; rfl
theorem getS_ne {c : Cfg} {i j : Nat} {w : Option W} (h : j ≠ i) : getS (setS c i w) j = getS c j := by
  unfold getS setS
  rw [List.getElem?_set_ne (Ne.symm h)]
theorem getS_out {c : Cfg} {i : Nat} {w : Option W} {j : Nat} {x : W} (h : getS (setS c i w) j = some x) : (j = i ∧ w = some x) ∨ (j ≠ i ∧ getS c j = some x) := by
  by_cases e : j = i
  · subst e
    have := getS_lt h
    unfold setS at this
    rw [List.length_set] at this
    rw [getS_set this] at h
    exact .inl ⟨rfl, h⟩
  · rw [getS_ne e] at h
    exact .inr ⟨e, h⟩

section
variable {C : C0} {G : Gh} {σ : L2.St} {ω : Om} {H : Hp} {c : Cfg}
/-- an own slot goes frozen -/
theorem Stp.frzS {n i : Nat} {ω : Om} {H : Hp} {a : Addr} (d : Dom ω H) (o : ω a = some (.slot n i)) : Stp n ω H (setO ω a none) H := by
  refine ⟨fun _ _ h _ => h, fun b h e => ?_, fun b q e => ?_, fun _ h => h, d, fun b q e => ?_⟩
  · by_cases z : b = a
    · rw [z, setO_same]
    · rw [setO_ne z]; exact e
  · by_cases z : b = a
    · rw [z, o] at e; cases e
      exact .inr ⟨n, i, rfl, Nat.le_refl _, by rw [z, setO_same]⟩
    · exact .inl (by rw [setO_ne z]; exact e)
  · by_cases z : b = a
    · rw [z, setO_same] at e; cases e
    · rw [setO_ne z] at e; exact d b q e
theorem Rel.frzS {n : Lv} {i : Nat} {K : PySem.W.Frag} {ds : List D} (R : Rel n K G ω σ H c) (h : getS c i = some (.own ds)) : ∃ a, σ[i]? = some (some (.ref a)) ∧ Stp n.n ω H (setO ω a none) H ∧ Rel n K G (setO ω a none) σ H (setS c i (some (.val (.list ds)))) ∧ Dq K (hide H (setO ω a none)) (.ref a) (.list ds) := by
  obtain ⟨a, vs, e, o, h0, h1, r⟩ := R.slot i _ h
  have s := Stp.frzS R.dom o
  have dp : Dq K (hide H (setO ω a none)) (.ref a) (.list ds) := own_thaw (n := 0) h1 r
  refine ⟨a, e, s, ⟨R.stp.trans s, fun j w q => ?_, by unfold setS; rw [List.length_set]; exact R.len, R.okp⟩, dp⟩
  rcases getS_out q with ⟨e1, q1⟩ | ⟨ne, q1⟩
  · subst e1; cases q1; exact ⟨_, e, dp⟩
  · refine (R.slot j w q1).move (Mv.tag setO_hide (fun z => ?_) (by rw [o]; intro x k z; cases z))
    rw [o] at z
    injection z with z
    injection z with _ z
    exact ne z.symm
end

/-! ### names -/
section
variable {C : C0} {X : Cx} {x : Str} {pos : Pos} {i : Nat}
theorem pe_varW (h : PE X (.Name x pos) (tVar i)) : PE X (.Name x pos) (tW C (.var i)) := pe_imp h fun σ H Q ⟨G, ω, c, R, p⟩ => by
  simp only [den] at p
  cases e : getS c i with
  | none => rw [e] at p; exact p.elim
  | some w =>
    rw [e] at p
    cases w with
    | val d =>
      obtain ⟨v, e1, r⟩ := R.slot i _ e
      exact ⟨v, e1, p ω H v (Stp.refl R.dom) R r⟩
    | own ds =>
      obtain ⟨a, e1, s, R', r⟩ := R.frzS e
      exact ⟨.ref a, e1, p _ H (.ref a) s R' r⟩
    | exc _ _ => exact p.elim
    | obj _ => exact p.elim
    | lnt _ _ => exact p.elim
theorem pe_varP (h : PE X (.Name x pos) (tVar i)) : PE X (.Name x pos) (tP C (.var i)) := pe_imp h fun σ H Q ⟨G, ω, c, R, p⟩ => by
  simp only [peekR] at p
  cases e : getS c i with
  | none => rw [e] at p; exact p.elim
  | some w =>
    rw [e] at p
    cases w with
    | val d =>
      obtain ⟨v, e1, r⟩ := R.slot i _ e
      exact ⟨v, e1, p ω H v (Stp.refl R.dom) R (.inl r)⟩
    | own ds =>
      obtain ⟨a, vs, e1, o, h0, h1, r⟩ := R.slot i _ e
      exact ⟨.ref a, e1, p ω H (.ref a) (Stp.refl R.dom) R (.inr ⟨ds, a, vs, rfl, rfl, h1, (fun y k z => by rw [o] at z; cases z), r⟩)⟩
    | exc _ _ => exact p.elim
    | obj _ => exact p.elim
    | lnt _ _ => exact p.elim
/-- any other node is read by its value -/
noncomputable def Ex.isVar : Ex → Bool
  | .var _ => true
  | _ => false
theorem pe_P {e : Expr} {m : Ex} (hm : m.isVar = false) (h : PE X e (tV C m)) : PE X e (tP C m) := pe_imp h fun σ H Q ⟨G, ω, c, R, p⟩ => ⟨G, ω, c, R, by
  have e : peekR m c ((den C.k m).v c) = frzR ((den C.k m).v c) := by cases m <;> first | rfl | cases hm
  have p : Post C G σ ω H (peekR m c ((den C.k m).v c)) (rP C.K) Q := p
  rw [e] at p
  exact p.rel fun _ _ _ _ q => .inl q⟩
end
end Rp

/-! Rp, part 3: expressions. -/
namespace Rp
open PySem PySem.Spec PyProof.Rows L2

/-- a mini expression and the expression that it stands for -/
structure SE (C : C0) (X : Cx) (m : Ex) (e : Expr) : Prop where
  w : PE X e (tW C m)
  p : PE X e (tP C m)
  t : PT X e (tT C m)
noncomputable abbrev Plain (X : Cx) (e : Expr) : Prop := ∀ whole, isTrue e X.env whole = (do let v ← whole; standAt e.pos; holding [v] (truthy v))

section
variable {C : C0} {X : Cx} {e : Expr} {m : Ex}
theorem truth_ok {K : PySem.W.Frag} {ω : Om} {H : Hp} {v : V} {d : D} {t : Bool} (h : RP K ω H v d) (e : truth d = some t) : TruV K v H t := by
  cases d with
  | none =>
    rcases h with h | ⟨_, _, _, z, _⟩
    · cases h; cases e; rfl
    · cases z
  | bool b => cases h.bool; cases e; rfl
  | int i => cases h.int; cases e; rfl
  | str x =>
    cases h.str
    simp only [truth] at e
    split at e
    · rename_i z
      cases e
      refine ⟨by rw [sizeLine_eq]; exact z, ?_⟩
      show (x.length != 0) = ((x.length : Int) != 0)
      by_cases q : x.length = 0
      · rw [q]; rfl
      · have : ((x.length : Int) != 0) = true := by simp; omega
        rw [this]; simpa using q
    · cases e
  | list l =>
    obtain ⟨a, vs, rfl, q, r⟩ := h.list
    cases e
    refine .inl ⟨vs, .inl q, ?_⟩
    cases r <;> rfl
  | tuple l =>
    obtain ⟨a, vs, rfl, q, r⟩ := h.tuple
    cases e
    refine .inr (.inl ⟨vs, q, ?_⟩)
    cases r <;> rfl
  | dict _ => cases e
theorem truth_post {G : Gh} {σ : L2.St} {ω : Om} {H : Hp} {r : Rs D} {Q : Bool → Hp → Prop} (h : Post C G σ ω H (truthR r) rT Q) : Post C G σ ω H r (rP C.K) (fun x H' => ∃ k, TruV C.K x H' k ∧ Q k H') := by
  unfold truthR at h
  refine h.bind fun d c1 ω1 H1 v _ s R q p => ?_
  cases e : truth d with
  | none => rw [e] at p; exact p.elim
  | some t =>
    rw [e] at p
    exact ⟨t, truth_ok q e, p ω1 H1 t (Stp.refl R.dom) R rfl⟩
/-- tested by its value -/
theorem pt_P (hK : X.K = C.K) (h : PE X e (tP C m)) (hp : Plain X e) (hd : ∀ c, (den C.k m).t c = truthR (peekR m c ((den C.k m).v c))) : PT X e (tT C m) := by
  refine pt_imp (pt_truth h hp) fun σ H Q ⟨G, ω, c, R, p⟩ => ⟨G, ω, c, R, ?_⟩
  rw [hK]
  rw [hd] at p
  exact truth_post p
theorem peek_other {k : Call} {c : Cfg} (hm : m.isVar = false) : peekR m c ((den k m).v c) = frzR ((den k m).v c) := by cases m <;> first | rfl | cases hm
/-- a node by its value alone -/
theorem SE.of (hK : X.K = C.K) (hm : m.isVar = false) (hd : ∀ c, (den C.k m).t c = truthR (frzR ((den C.k m).v c))) (hp : Plain X e) (h : PE X e (tW C m)) : SE C X m e := by
  have p := pe_P hm (pe_V h)
  exact ⟨h, p, pt_P hK p hp fun c => by rw [hd, peek_other hm]⟩
theorem SE.v (h : SE C X m e) : PE X e (tV C m) := pe_V h.w
end

/-! ### constants, names -/
section
variable {C : C0} {X : Cx} {x : Str} {pos : Pos} {i : Nat}
theorem se_var (hK : X.K = C.K) (h : PE X (.Name x pos) (tVar i)) : SE C X (.var i) (.Name x pos) := by
  have p : PE X (.Name x pos) (tP C (.var i)) := pe_varP h
  refine ⟨pe_varW h, p, pt_P hK p (fun _ => rfl) fun c => ?_⟩
  simp only [den, peekR]
  cases getS c i with
  | none => rfl
  | some w => cases w <;> rfl
/-- a constant that needs no heap -/
theorem se_con {e : Expr} {d : D} {v : V} (hK : X.K = C.K) (h : PE X e (tC v)) (hp : Plain X e) (hd : ∀ H, Dq C.K H v d) : SE C X (.con d) e :=
  .of hK rfl (fun _ => rfl) hp (pe_imp h fun σ H Q ⟨G, ω, c, R, p⟩ => ret_val R (hd _) p)
theorem se_glo {e : Expr} {d : D} {v : V} (hK : X.K = C.K) (h : PE X e (tC v)) (hp : Plain X e) (hd : ∀ H, Dq C.K H v d) : SE C X (.glo x d) e :=
  .of hK rfl (fun _ => rfl) hp (pe_imp h fun σ H Q ⟨G, ω, c, R, p⟩ => ret_val R (hd _) p)
end

/-! ### lists of expressions -/
section
variable {C : C0} {X : Cx} {e : Expr} {es : List Expr} {m : Ex} {ms : Exs}
theorem pa_V0 : PA X [] (tVs C .nil) := pa_imp pa_nil fun σ H Q ⟨G, ω, c, R, p⟩ => p ω H [] (Stp.refl R.dom) R .nil
theorem pa_V (hs : starEach (e :: es) X.env = (false, eval e X.env) :: starEach es X.env) (h : PE X e (tV C m)) (hr : PA X es (tVs C ms)) : PA X (e :: es) (tVs C (.cons m ms)) :=
  pa_imp (pa_cons h hr hs) fun σ H Q ⟨G, ω, c, R, p⟩ => ⟨G, ω, c, R, by
    simp only [denVs] at p
    refine p.bind fun d c1 ω1 H1 v _ s1 R1 q1 p1 => ⟨G, ω1, c1, R1, p1.bind fun ds c2 ω2 H2 vs _ s2 R2 q2 p2 => ?_⟩
    exact p2 ω2 H2 (v :: vs) (Stp.refl R2.dom) R2 (.cons (RV.step q1 s2) q2)⟩
theorem pa_P0 : PA X [] (tPs C .nil) := pa_imp pa_nil fun σ H Q ⟨G, ω, c, R, p⟩ => p ω H [] (Stp.refl R.dom) R .nil
theorem pa_P (hs : starEach (e :: es) X.env = (false, eval e X.env) :: starEach es X.env) (h : PE X e (tP C m)) (hr : PA X es (tPs C ms)) : PA X (e :: es) (tPs C (.cons m ms)) :=
  pa_imp (pa_cons h hr hs) fun σ H Q ⟨G, ω, c, R, p⟩ => ⟨G, ω, c, R, by
    simp only [denPs] at p
    refine p.bind fun d c1 ω1 H1 v _ s1 R1 q1 p1 => ⟨G, ω1, c1, R1, p1.bind fun ds c2 ω2 H2 vs _ s2 R2 q2 p2 => ?_⟩
    exact p2 ω2 H2 (v :: vs) (Stp.refl R2.dom) R2 (.cons (RP.step q1 s2) q2)⟩
/-- a tuple, a list of written items -/
theorem denVs_len {k : Call} : ∀ (ms : Exs) (c : Cfg) (ds : List D) (c' : Cfg), denVs k ms c = .ok ds c' → ds.length = ms.len
  | .nil, c, ds, c', h => by simp only [denVs] at h; cases h; rfl
  | .cons m ms, c, ds, c', h => by
    simp only [denVs] at h
    cases e1 : frzR ((den k m).v c) with
    | no => rw [e1] at h; cases h
    | ex x c => rw [e1] at h; cases h
    | ok d c1 =>
      rw [e1, Rs.bind_ok] at h
      cases e2 : denVs k ms c1 with
      | no => rw [e2] at h; cases h
      | ex x c => rw [e2] at h; cases h
      | ok ds' c2 =>
        rw [e2, Rs.bind_ok] at h
        cases h
        rw [List.length_cons, denVs_len ms c1 ds' _ e2]; rfl
theorem se_tup {x1 : Nat} {pos : Pos} (hK : X.K = C.K) (hl : ms.len ≤ 1000) (h : PA X es (tVs C ms)) : SE C X (.tup ms) (.Tuple es x1 pos) :=
  .of hK rfl (fun _ => rfl) (fun _ => rfl) (pe_imp (pe_tup h) fun σ H Q ⟨G, ω, c, R, p⟩ => ⟨G, ω, c, R, by
    simp only [den, Den.of] at p
    refine p.bind fun ds c1 ω1 H1 vs e s1 R1 q1 p1 => ⟨?_, fun a ha => ret_tup R1 ha q1 p1⟩
    rw [dps_len q1, denVs_len _ _ _ _ e]
    exact Nat.le_trans hl (by rw [sizeLine_eq]; decide)⟩)
theorem se_lst {pos : Pos} (hK : X.K = C.K) (hl : ms.len ≤ 1000) (h : PA X es (tVs C ms)) : SE C X (.lst ms) (.List es pos) :=
  .of hK rfl (fun _ => rfl) (fun _ => rfl) (pe_imp (pe_lst h) fun σ H Q ⟨G, ω, c, R, p⟩ => ⟨G, ω, c, R, by
    simp only [den, Den.of] at p
    refine p.bind fun ds c1 ω1 H1 vs e s1 R1 q1 p1 => ⟨?_, fun a ha => ret_own R1 ha q1 p1⟩
    rw [dps_len q1, denVs_len _ _ _ _ e]
    exact Nat.le_trans hl (by rw [sizeLine_eq]; decide)⟩)
end

/-! ### and, or, not, if -/
section
variable {C : C0} {X : Cx} {a b : Expr} {rest : List Expr} {ma mb : Ex} {pos : Pos}
theorem pw_of {op : BoolOp} {es : List Expr} {t : TT} (h : PT X (.BoolOp op es pos) t) : PW X (.BoolOp op es pos) t := ⟨fun wh pins s σ H Q I q => h.run pins s σ H Q I q⟩
theorem and_T {σ : L2.St} {H : Hp} {Q : Bool → Hp → Prop} (h : tT C (.and ma mb) σ H Q) : tAnd (tT C ma) (tT C mb) σ H Q := by
  obtain ⟨G, ω, c, R, p⟩ := h
  refine ⟨G, ω, c, R, ?_⟩
  simp only [den] at p
  refine p.bind fun t c1 ω1 H1 b _ s1 R1 q1 p1 => ?_
  cases q1
  cases t with
  | true => exact ⟨G, ω1, c1, R1, p1⟩
  | false => exact p1 ω1 H1 false (Stp.refl R1.dom) R1 rfl
theorem or_T {σ : L2.St} {H : Hp} {Q : Bool → Hp → Prop} (h : tT C (.or ma mb) σ H Q) : tOr (tT C ma) (tT C mb) σ H Q := by
  obtain ⟨G, ω, c, R, p⟩ := h
  refine ⟨G, ω, c, R, ?_⟩
  simp only [den] at p
  refine p.bind fun t c1 ω1 H1 b _ s1 R1 q1 p1 => ?_
  cases q1
  cases t with
  | false => exact ⟨G, ω1, c1, R1, p1⟩
  | true => exact p1 ω1 H1 true (Stp.refl R1.dom) R1 rfl
theorem and_W {σ : L2.St} {H : Hp} {Q : VK} (h : tW C (.and ma mb) σ H Q) : tAndV (tP C ma) (tW C mb) σ H Q := by
  obtain ⟨G, ω, c, R, p⟩ := h
  refine ⟨G, ω, c, R, ?_⟩
  simp only [den] at p
  refine p.bind fun d c1 ω1 H1 v _ s1 R1 q1 p1 => ?_
  cases d with
  | bool t =>
    cases RP.bool q1
    refine ⟨t, rfl, ?_⟩
    cases t with
    | true => exact ⟨G, ω1, c1, R1, p1⟩
    | false => exact ret_val R1 (.bl false) p1
  | _ => exact p1.elim
theorem or_W {σ : L2.St} {H : Hp} {Q : VK} (h : tW C (.or ma mb) σ H Q) : tOrV (tP C ma) (tW C mb) σ H Q := by
  obtain ⟨G, ω, c, R, p⟩ := h
  refine ⟨G, ω, c, R, ?_⟩
  simp only [den] at p
  refine p.bind fun d c1 ω1 H1 v _ s1 R1 q1 p1 => ?_
  cases d with
  | bool t =>
    cases RP.bool q1
    refine ⟨t, rfl, ?_⟩
    cases t with
    | false => exact ⟨G, ω1, c1, R1, p1⟩
    | true => exact ret_val R1 (.bl true) p1
  | _ => exact p1.elim
theorem SE.mk' {m : Ex} {e : Expr} (hm : m.isVar = false) (w : PE X e (tW C m)) (t : PT X e (tT C m)) : SE C X m e := ⟨w, pe_P hm (pe_V w), t⟩
theorem se_and2 (ha : SE C X ma a) (hb : SE C X mb b) : SE C X (.and ma mb) (.BoolOp .And [a, b] pos) :=
  .mk' rfl (pe_imp (pe_and ha.p (pe_one hb.w)) fun _ _ _ h => and_W h) (pt_imp (PW.pt (pw_and ha.t (pw_and1 hb.t))) fun _ _ _ h => and_T h)
theorem se_and {b2 : Expr} (ha : SE C X ma a) (hb : SE C X mb (.BoolOp .And (b :: b2 :: rest) pos)) : SE C X (.and ma mb) (.BoolOp .And (a :: b :: b2 :: rest) pos) :=
  .mk' rfl (pe_imp (pe_and ha.p hb.w) fun _ _ _ h => and_W h) (pt_imp (PW.pt (pw_and ha.t (pw_of hb.t))) fun _ _ _ h => and_T h)
theorem se_or2 (ha : SE C X ma a) (hb : SE C X mb b) : SE C X (.or ma mb) (.BoolOp .Or [a, b] pos) :=
  .mk' rfl (pe_imp (pe_or ha.p (pe_one hb.w)) fun _ _ _ h => or_W h) (pt_imp (PW.pt (pw_or ha.t (pw_or1 hb.t))) fun _ _ _ h => or_T h)
theorem se_or {b2 : Expr} (ha : SE C X ma a) (hb : SE C X mb (.BoolOp .Or (b :: b2 :: rest) pos)) : SE C X (.or ma mb) (.BoolOp .Or (a :: b :: b2 :: rest) pos) :=
  .mk' rfl (pe_imp (pe_or ha.p hb.w) fun _ _ _ h => or_W h) (pt_imp (PW.pt (pw_or ha.t (pw_of hb.t))) fun _ _ _ h => or_T h)
theorem se_not (hK : X.K = C.K) (ha : SE C X ma a) : SE C X (.not ma) (.UnaryOp .Not a pos) := by
  refine .mk' rfl (pe_imp (pe_notT ha.p) fun σ H Q ⟨G, ω, c, R, p⟩ => ⟨G, ω, c, R, ?_⟩) (pt_imp (pt_not ha.t) fun σ H Q ⟨G, ω, c, R, p⟩ => ⟨G, ω, c, R, ?_⟩)
  · simp only [den] at p
    rw [hK]
    refine truth_post (p.bind fun t c1 ω1 H1 b _ s1 R1 q1 p1 => ?_)
    cases q1
    exact ret_val R1 (.bl _) p1
  · simp only [den] at p
    refine p.bind fun t c1 ω1 H1 b _ s1 R1 q1 p1 => ?_
    cases q1
    exact p1 ω1 H1 _ (Stp.refl R1.dom) R1 rfl
theorem pt_ite {c : Expr} {mc : Ex} (hc : SE C X mc c) (ha : SE C X ma a) (hb : SE C X mb b) : PT X (.IfExp c a b pos) (tT C (.ite mc ma mb)) := by
  refine ⟨fun pins s σ H Q I h => ?_⟩
  obtain ⟨G, ω, cf, R, p⟩ := h
  simp only [den] at p
  refine isTrue_IfExp (thn (hc.t.run pins s σ H (fun t H1 => if t = true then tT C ma σ H1 Q else tT C mb σ H1 Q) I ⟨G, ω, cf, R, p.bind fun t c1 ω1 H1 b _ s1 R1 q1 p1 => ?_⟩) fun t s1 ⟨H1, I1, q⟩ => ?_)
  · cases q1
    cases t with
    | true => exact ⟨G, ω1, c1, R1, p1⟩
    | false => exact ⟨G, ω1, c1, R1, p1⟩
  · cases t with
    | true => exact ha.t.run pins s1 σ H1 Q I1 q
    | false => exact hb.t.run pins s1 σ H1 Q I1 q
theorem se_ite {c : Expr} {mc : Ex} (hc : SE C X mc c) (ha : SE C X ma a) (hb : SE C X mb b) : SE C X (.ite mc ma mb) (.IfExp c a b pos) := by
  refine .mk' rfl (pe_imp (pe_ifExp hc.t ha.w hb.w) fun σ H Q ⟨G, ω, c, R, p⟩ => ⟨G, ω, c, R, ?_⟩) (pt_ite hc ha hb)
  simp only [den] at p
  refine p.bind fun t c1 ω1 H1 b _ s1 R1 q1 p1 => ?_
  cases q1
  cases t with
  | true => exact ⟨G, ω1, c1, R1, p1⟩
  | false => exact ⟨G, ω1, c1, R1, p1⟩
end
end Rp

/-! Rp, part 4: primitives. -/
namespace Rp
open PySem PySem.Spec PyProof.Rows L2

theorem big_line : big = sizeLine := by rw [sizeLine_eq]; rfl

/-- two operands, by data -/
noncomputable def rD2 (C : C0) (p : P) : R2 := fun x y H Q => ∃ σ d e w G ω c, Rel C.n C.K G ω σ H c ∧ RP C.K ω H x d ∧ RP C.K ω H y e ∧ prim p [d, e] = some w ∧ Wants C G σ ω H c w Q
/-- arguments, by data -/
noncomputable def rDn (C : C0) (p : P) : List V → Hp → VK → Prop := fun xs H Q => ∃ σ ds w G ω c, Rel C.n C.K G ω σ H c ∧ RPs C.K ω H xs ds ∧ prim p ds = some w ∧ Wants C G σ ω H c w Q

section
variable {C : C0} {X : Cx} {a b : Expr} {ma mb : Ex} {p : P}
theorem bin_W {r : R2} (hr : r = rD2 C p) {σ : L2.St} {H : Hp} {Q : VK} (h : tW C (.pr p (.cons ma (.cons mb .nil))) σ H Q) : tOp r (tP C ma) (tP C mb) σ H Q := by
  obtain ⟨G, ω, c, R, q⟩ := h
  refine ⟨G, ω, c, R, ?_⟩
  simp only [den, Den.of, denPs, Rs.bind_assoc, Rs.bind_ok] at q
  refine q.bind fun d c1 ω1 H1 x _ s1 R1 q1 p1 => ⟨G, ω1, c1, R1, p1.bind fun e c2 ω2 H2 y _ s2 R2 q2 p2 => ?_⟩
  rw [hr]
  cases ew : prim p [d, e] with
  | none => rw [ew] at p2; exact p2.elim
  | some w =>
    rw [ew] at p2
    exact ⟨σ, d, e, w, G, ω2, c2, R2, RP.step q1 s2, q2, ew, p2⟩
theorem bin_T (hb : ∀ ds w, prim p ds = some w → ∃ t, w = .val (.bool t)) {σ : L2.St} {H : Hp} {Q : Bool → Hp → Prop} (h : tT C (.pr p (.cons ma (.cons mb .nil))) σ H Q) : tTest (tOp (rD2 C p) (tP C ma) (tP C mb)) σ H Q := by
  obtain ⟨G, ω, c, R, q⟩ := h
  refine ⟨G, ω, c, R, ?_⟩
  simp only [den, Den.of, denPs, Rs.bind_assoc, Rs.bind_ok, truthR, frzR] at q
  refine q.bind fun d c1 ω1 H1 x _ s1 R1 q1 p1 => ⟨G, ω1, c1, R1, p1.bind fun e c2 ω2 H2 y _ s2 R2 q2 p2 => ?_⟩
  cases ew : prim p [d, e] with
  | none => rw [ew] at p2; exact p2.elim
  | some w =>
    rw [ew] at p2
    obtain ⟨t, rfl⟩ := hb _ _ ew
    refine ⟨σ, d, e, _, G, ω2, c2, R2, RP.step q1 s2, q2, ew, fun ω' H' v s' R' z => ?_⟩
    cases z
    exact ⟨t, rfl, p2 ω' H' t s' R' rfl⟩
theorem se_bin {op : Operator} {pos : Pos} (hK : X.K = C.K) (ho : OpR X (binaryOp op) (rD2 C p)) (ha : SE C X ma a) (hb : SE C X mb b) : SE C X (.pr p (.cons ma (.cons mb .nil))) (.BinOp a op b pos) :=
  .of hK rfl (fun _ => rfl) (fun _ => rfl) (pe_imp (pe_op ho ha.p hb.p) fun _ _ _ h => bin_W rfl h)
theorem se_cmp {op : CmpOp} {pos : Pos} (hm : behindInMarks op b = false) (ho : OpR X (compareOp op) (rD2 C p)) (hbl : ∀ ds w, prim p ds = some w → ∃ t, w = .val (.bool t)) (ha : SE C X ma a) (hb : SE C X mb b) :
    SE C X (.pr p (.cons ma (.cons mb .nil))) (.Compare a [op] [b] pos) :=
  .mk' rfl (pe_imp (pe_cmpR ho ha.p hb.p hm) fun _ _ _ h => bin_W rfl h) (pt_imp (pt_cmpR ho ha.p hb.p hm) fun _ _ _ h => bin_T hbl h)
theorem se_ix {pos : Pos} (hK : X.K = C.K) (ho : IxR X (rD2 C .ix)) (hp : PlainIx b) (ha : SE C X ma a) (hb : SE C X mb b) : SE C X (.pr .ix (.cons ma (.cons mb .nil))) (.Subscript a b pos) :=
  .of hK rfl (fun _ => rfl) (fun _ => rfl) (pe_imp (pe_ix ho ha.p hb.p hp) fun _ _ _ h => bin_W rfl h)

/-! ### operators -/
theorem vI_eq {i : Int} {w : W} (h : vI i = some w) : w = .val (.int i) := by cases h; rfl
theorem vB_eq {i : Bool} {w : W} (h : vB i = some w) : w = .val (.bool i) := by cases h; rfl
/-- two lists that are read, joined -/
noncomputable def rJoin : R2 := fun x y H Q => ∃ l b xs zs, x = .ref l ∧ y = .ref b ∧ Rd H l (.lst xs) ∧ Rd H b (.lst zs) ∧ xs.length + zs.length ≤ sizeLine ∧ ∀ p, H p = none → Q (.ref p) (upd H p (.lst (xs ++ zs)))
theorem op_join : OpR X (binaryOp .Add) rJoin := by
  intro pins s σ H x y v u Q I rx ry ⟨l, b, xs, zs, e1, e2, hl, hb, hz, q⟩
  subst e1 e2
  cases rx; cases ry
  obtain ⟨_, i1, n1, r1, g1⟩ := hl.ok I.hok
  obtain ⟨_, i2, n2, r2, g2⟩ := hb.ok I.hok
  have hlen : i1.length + i2.length ≤ sizeLine := by rw [← r1.length, ← r2.length]; exact hz
  refine PySem.P.add_list g1 g2 ?_ (by simpa using hlen)
  rw [show i1.toArray ++ i2.toArray = (i1 ++ i2).toArray by simp]
  refine ⟨.ref _, _, I.lnew (t' := s.toks) (Vals.append r1 r2) ?_, rfl, q _ I.fresh⟩
  rw [List.length_append]; exact hz
/-- a list that is read, so many times -/
noncomputable def rTimes : R2 := fun x y H Q => ∃ l k xs, x = .ref l ∧ y = .int k ∧ Rd H l (.lst xs) ∧ -(2 ^ 63) ≤ k ∧ k < 2 ^ 63 ∧ xs.length * k.toNat ≤ sizeLine ∧ ∀ p, H p = none → Q (.ref p) (upd H p (.lst (List.replicate k.toNat xs).flatten))
theorem fold_times {α : Type} (l : List α) : ∀ (k : Nat) (a : Array α), List.foldl (fun x1 x2 => x1 ++ x2) a (List.replicate k l.toArray) = a ++ (List.replicate k l).flatten.toArray
  | 0, a => by simp
  | k + 1, a => by
    rw [List.replicate_succ, List.foldl_cons, fold_times l k, List.replicate_succ, List.flatten_cons]
    simp [Array.append_assoc]
theorem vals_times {xs : List V} {us : List Value} (r : Vals xs us) : ∀ k : Nat, Vals (List.replicate k xs).flatten (List.replicate k us).flatten
  | 0 => .nil
  | k + 1 => by
    rw [List.replicate_succ, List.replicate_succ, List.flatten_cons, List.flatten_cons]
    exact Vals.append r (vals_times r k)
theorem op_times : OpR X (binaryOp .Mult) rTimes := by
  intro pins s σ H x y v u Q I rx ry ⟨l, k, xs, e1, e2, hl, h1, h2, hz, q⟩
  subst e1 e2
  cases rx
  obtain ⟨t, rfl⟩ := ry
  obtain ⟨_, i1, n1, r1, g1⟩ := hl.ok I.hok
  have hlen : i1.toArray.size * k.toNat ≤ sizeLine := by rw [List.size_toArray, ← r1.length]; exact hz
  have hcap : ¬ i1.toArray.size * k.toNat > (2 ^ 63 - 1) / 8 := by
    have : (sizeLine : Nat) ≤ (2 ^ 63 - 1) / 8 := by decide
    omega
  have c0 : ¬ (!Builtin.List.listFitsIndex k) = true := by simp [Builtin.List.listFitsIndex]; omega
  have c2 : ¬ Builtin.List.listTooLong (i1.toArray.size * k.toNat) = true := by simp only [Builtin.List.listTooLong, decide_eq_true_eq]; omega
  have M := AutoListH.list___mul___list_int_3 l i1.toArray n1 k t c0 hcap c2
  refine wpAny_binaryOp_repeat_ref (T := "list") (U := "int") (by decide) ⟨_, g1, rfl⟩ (fun s' => typeIs_int s' k t) noFill_list_mul F.fills_int_mul F.slot_int_rmul repeat_list F.slot_int_index.lookup ?_
  refine call_meets F.slot_int_rmul (typeIs_int s k t) F.entry_int_rmul (F.args_int_rmul_2 _ _) (int___rmul___int_list k t l i1.toArray n1) ⟨g1, rfl, ⟨_, g1, rfl⟩, ?_⟩
  refine call_meets F.slot_list_mul ⟨_, g1, rfl⟩ F.entry_list_mul (F.args_list_mul_2 _ _) M ⟨g1, ?_⟩
  have e : List.foldl (fun x1 x2 => x1 ++ x2) #[] (List.replicate (if i1.toArray.isEmpty = true then 0 else k.toNat) i1.toArray) = (List.replicate k.toNat i1).flatten.toArray := by
    rw [fold_times]
    cases i1 with
    | nil => simp
    | cons a r => simp
  rw [e]
  refine ⟨.ref _, _, I.lnew (t' := s.toks) (vals_times r1 _) ?_, rfl, q _ I.fresh⟩
  rw [List.length_flatten, List.map_replicate, List.sum_replicate_nat, Nat.mul_comm]; exact hz
theorem strOk_app {a b : Str} (ha : PyData.strOk a = true) (hb : PyData.strOk b = true) : PyData.strOk (a ++ b) = true := by
  unfold PyData.strOk at *
  show (a.cps ++ b.cps).all _ = true
  rw [Array.all_append, ha, hb]; rfl
theorem opD_add (hK : X.K = C.K) : OpR X (binaryOp .Add) (rD2 C .add) := by
  intro pins s σ H x y v u Q I rx ry ⟨σ', d, e, w, G, ω, c, R, q1, q2, ew, k⟩
  cases d with
  | int i =>
    cases e with
    | int j =>
      cases q1.int; cases q2.int; cases vI_eq ew
      exact op_add pins s σ H _ _ v u Q I rx ry ⟨i, j, rfl, rfl, ret_val R (.int _) k⟩
    | _ => cases ew
  | str i =>
    cases e with
    | str j =>
      cases q1.str; cases q2.str
      simp only [prim, pAdd] at ew
      split at ew
      · rename_i z; cases ew
        exact op_add_str pins s σ H _ _ v u Q I rx ry ⟨i, j, rfl, rfl, by rw [← big_line]; exact z, ret_val R (.str _ (strOk_app q1.strOk q2.strOk)) k⟩
      · cases ew
    | _ => cases ew
  | tuple i =>
    cases e with
    | tuple j =>
      simp only [prim, pAdd] at ew
      split at ew
      · rename_i z; cases ew
        obtain ⟨a, vs, rfl, t1, r1⟩ := q1.tuple
        obtain ⟨b, us, rfl, t2, r2⟩ := q2.tuple
        refine op_catA pins s σ H _ _ v u Q I rx ry ⟨a, b, vs, us, rfl, rfl, hK ▸ t1, hK ▸ t2, by rw [dps_len r1, dps_len r2, ← big_line]; exact z, fun e => ?_, fun e e2 => ?_, fun e e2 p hp => ?_⟩
        · subst e
          cases r1
          rcases q2 with q2 | ⟨_, _, _, z, _⟩
          · exact ret_val R q2 k
          · cases z
        · subst e2
          cases r2
          rcases q1 with q1 | ⟨_, _, _, z, _⟩
          · exact ret_val R q1 (by rw [List.append_nil] at k; exact k)
          · cases z
        · exact ret_tup R hp (dps_app r1 r2) k
      · cases ew
    | _ => cases ew
  | list i =>
    cases e with
    | list j =>
      simp only [prim, pAdd] at ew
      split at ew
      · rename_i z; cases ew
        obtain ⟨a, vs, rfl, t1, r1⟩ := q1.list
        obtain ⟨b, us, rfl, t2, r2⟩ := q2.list
        exact op_join pins s σ H _ _ v u Q I rx ry ⟨a, b, vs, us, rfl, rfl, t1, t2, by rw [dps_len r1, dps_len r2, ← big_line]; exact z, fun p hp => ret_own R hp (dps_app r1 r2) k⟩
      · cases ew
    | _ => cases ew
  | _ => cases ew
theorem opD_sub : OpR X (binaryOp .Sub) (rD2 C .sub) := by
  intro pins s σ H x y v u Q I rx ry ⟨σ', d, e, w, G, ω, c, R, q1, q2, ew, k⟩
  cases d with
  | int i =>
    cases e with
    | int j =>
      cases q1.int; cases q2.int; cases vI_eq ew
      exact op_sub pins s σ H _ _ v u Q I rx ry ⟨i, j, rfl, rfl, ret_val R (.int _) k⟩
    | _ => cases ew
  | _ => cases ew
theorem opD_fdiv : OpR X (binaryOp .FloorDiv) (rD2 C .fdiv) := by
  intro pins s σ H x y v u Q I rx ry ⟨σ', d, e, w, G, ω, c, R, q1, q2, ew, k⟩
  cases d with
  | int i =>
    cases e with
    | int j =>
      cases q1.int; cases q2.int
      simp only [prim] at ew
      split at ew
      · rename_i z; cases vI_eq ew
        simp only [Bool.and_eq_true, decide_eq_true_eq] at z
        exact op_fdiv pins s σ H _ _ v u Q I rx ry ⟨i, j, rfl, rfl, z, ret_val R (.int _) k⟩
      · cases ew
    | _ => cases ew
  | _ => cases ew
theorem opD_mod : OpR X (binaryOp .Mod) (rD2 C .mod) := by
  intro pins s σ H x y v u Q I rx ry ⟨σ', d, e, w, G, ω, c, R, q1, q2, ew, k⟩
  cases d with
  | int i =>
    cases e with
    | int j =>
      cases q1.int; cases q2.int
      simp only [prim] at ew
      split at ew
      · rename_i z; cases vI_eq ew
        exact op_mod pins s σ H _ _ v u Q I rx ry ⟨i, j, rfl, rfl, z, ret_val R (.int _) k⟩
      · cases ew
    | _ => cases ew
  | _ => cases ew
theorem opD_pow : OpR X (binaryOp .Pow) (rD2 C .pow) := by
  intro pins s σ H x y v u Q I rx ry ⟨σ', d, e, w, G, ω, c, R, q1, q2, ew, k⟩
  cases d with
  | int i =>
    cases e with
    | int j =>
      cases q1.int; cases q2.int
      simp only [prim] at ew
      split at ew
      · rename_i z; cases vI_eq ew
        simp only [Bool.and_eq_true, decide_eq_true_eq] at z
        exact op_pow pins s σ H _ _ v u Q I rx ry ⟨i, j, rfl, rfl, ⟨z.1.1, z.1.2, z.2⟩, ret_val R (.int _) k⟩
      · cases ew
    | _ => cases ew
  | _ => cases ew
theorem dps_rep {K : PySem.W.Frag} {H : Hp} {vs : List V} {ds : List D} (h : DqAll K H vs ds) : ∀ n : Nat, DqAll K H (List.replicate n vs).flatten (List.replicate n ds).flatten
  | 0 => .nil
  | n + 1 => by
    rw [List.replicate_succ, List.replicate_succ, List.flatten_cons, List.flatten_cons]
    exact dps_app h (dps_rep h n)
/-- a tuple once -/
theorem tuple_mul1 (l : Addr) (items : Array Value) (n : Nat) (dd : Option Addr) (sl : Array (Option Value)) (u : Tok) :
    Meets (Builtin.«tuple.__mul__» ⟨[.ref l, .int 1 u], []⟩) (fun _ R s => s.heap.get? l = some { cls := .type "tuple", dict := dd, data := .seq items n, slots := sl } ∧
      R (.ok (.ret (Value.ref l))) s) :=
  .of_wp fun prog w A R s h => by
    obtain ⟨hp, g, d, tk, os⟩ := s
    obtain ⟨hl, h⟩ := h
    have f1 := AutoSeq1.idx_int
    have c1 : (items.isEmpty || (1 : Int) == 1) = true := by simp
    wp_walk using wpAny_loadPart' hl
    repeat (first
      | (refine wpAny_ite_false (decide_eq_false (by simp)) ?_; wp_walk using wpAny_loadPart' hl)
      | (refine wpAny_ite_true (decide_eq_true (by rw [c1])) ?_; wp_walk using wpAny_loadPart' hl))
    exact ⟨_, rfl, h⟩
noncomputable def rRep1 (K : PySem.W.Frag) : R2 := fun x y H Q => ∃ l xs, x = .ref l ∧ y = .int 1 ∧ SqT K H l xs ∧ Q (.ref l) H
theorem op_rep1 : OpR X (binaryOp .Mult) (rRep1 X.K) := by
  intro pins s σ H x y v u Q I rx ry h
  obtain ⟨l, xs, rfl, rfl, hT, q⟩ := h
  cases rx
  obtain ⟨t, rfl⟩ := ry
  obtain ⟨its, r, ⟨⟨cls, dd, data, sl⟩, ho, hc, n, hd⟩, hs⟩ := I.tuple hT
  simp only at hc hd
  subst hc hd
  refine wpAny_binaryOp_repeat_ref (T := "tuple") (U := "int") (by decide) ⟨_, ho, rfl⟩ (fun s' => typeIs_int s' 1 t) noFill_tuple_mul F.fills_int_mul F.slot_int_rmul repeat_tuple F.slot_int_index.lookup
    (call_meets F.slot_int_rmul (typeIs_int s 1 t) F.entry_int_rmul (F.args_int_rmul_2 _ _) (int_rmul_tuple 1 t l its.toArray n dd sl)
      ⟨ho, rfl, ⟨_, ho, rfl⟩, call_meets F.slot_tuple_mul ⟨_, ho, rfl⟩ F.entry_tuple_mul (F.args_tuple_mul_2 _ _) (tuple_mul1 l its.toArray n dd sl t) ⟨ho, ?_⟩⟩)
  exact ⟨.ref l, H, I, rfl, q⟩
theorem opD_mul (hK : X.K = C.K) : OpR X (binaryOp .Mult) (rD2 C .mul) := by
  intro pins s σ H x y v u Q I rx ry ⟨σ', d, e, w, G, ω, c, R, q1, q2, ew, k⟩
  cases d with
  | int i =>
    cases e with
    | int j =>
      cases q1.int; cases q2.int
      simp only [prim, pMul] at ew
      split at ew
      · rename_i z; cases vI_eq ew
        simp only [mulOk, Bool.or_eq_true, Bool.and_eq_true, decide_eq_true_eq] at z
        exact op_mul pins s σ H _ _ v u Q I rx ry ⟨i, j, rfl, rfl, z, ret_val R (.int _) k⟩
      · cases ew
    | _ => cases ew
  | list l =>
    cases e with
    | int j =>
      cases q2.int
      simp only [prim, pMul] at ew
      split at ew
      · rename_i z; cases ew
        simp only [small, Bool.and_eq_true, decide_eq_true_eq] at z
        obtain ⟨a, vs, rfl, t1, r1⟩ := q1.list
        exact op_times pins s σ H _ _ v u Q I rx ry ⟨a, j, vs, rfl, rfl, t1, by omega, by omega, by rw [dps_len r1, ← big_line]; exact z.2, fun p hp => ret_own R hp (dps_rep r1 _) k⟩
      · cases ew
    | _ => cases ew
  | tuple l =>
    cases e with
    | int j =>
      cases q2.int
      simp only [prim, pMul] at ew
      split at ew
      · rename_i z; cases ew
        simp only [Bool.and_eq_true, decide_eq_true_eq, Bool.not_eq_true', List.isEmpty_eq_false_iff] at z
        obtain ⟨a, vs, rfl, t1, r1⟩ := q1.tuple
        have el := dps_len r1
        by_cases c1 : j = 1
        · subst c1
          rcases q1 with q1 | ⟨_, _, _, z, _⟩
          · exact op_rep1 pins s σ H _ _ v u Q I rx ry ⟨a, vs, rfl, rfl, hK ▸ t1, ret_val R q1 (by
              have e1 : (List.replicate (1 : Int).toNat l).flatten = l := by simp
              rw [e1] at k; exact k)⟩
          · cases z
        · exact op_repT pins s σ H _ _ v u Q I rx ry ⟨a, j, vs, rfl, rfl, hK ▸ t1, fun e => z.1.1.1 (by rw [e] at el; exact List.length_eq_zero_iff.mp el.symm), by have := z.1.1.2; omega, z.1.2, by rw [el]; exact z.2, fun p hp => ret_tup R hp (dps_rep r1 _) k⟩
      · cases ew
    | _ => cases ew
  | _ => cases ew
theorem opD_lt : OpR X (compareOp .Lt) (rD2 C .lt) := by
  intro pins s σ H x y v u Q I rx ry ⟨σ', d, e, w, G, ω, c, R, q1, q2, ew, k⟩
  cases d with
  | int i =>
    cases e with
    | int j =>
      cases q1.int; cases q2.int; cases vB_eq ew
      exact op_lt pins s σ H _ _ v u Q I rx ry ⟨i, j, rfl, rfl, ret_val R (.bl _) k⟩
    | _ => cases ew
  | _ => cases ew
theorem opD_le : OpR X (compareOp .LtE) (rD2 C .le) := by
  intro pins s σ H x y v u Q I rx ry ⟨σ', d, e, w, G, ω, c, R, q1, q2, ew, k⟩
  cases d with
  | int i =>
    cases e with
    | int j =>
      cases q1.int; cases q2.int; cases vB_eq ew
      exact op_le pins s σ H _ _ v u Q I rx ry ⟨i, j, rfl, rfl, ret_val R (.bl _) k⟩
    | _ => cases ew
  | _ => cases ew
theorem opD_gt : OpR X (compareOp .Gt) (rD2 C .gt) := by
  intro pins s σ H x y v u Q I rx ry ⟨σ', d, e, w, G, ω, c, R, q1, q2, ew, k⟩
  cases d with
  | int i =>
    cases e with
    | int j =>
      cases q1.int; cases q2.int; cases vB_eq ew
      exact op_gt pins s σ H _ _ v u Q I rx ry ⟨i, j, rfl, rfl, ret_val R (.bl _) k⟩
    | _ => cases ew
  | _ => cases ew
theorem opD_ge : OpR X (compareOp .GtE) (rD2 C .ge) := by
  intro pins s σ H x y v u Q I rx ry ⟨σ', d, e, w, G, ω, c, R, q1, q2, ew, k⟩
  cases d with
  | int i =>
    cases e with
    | int j =>
      cases q1.int; cases q2.int; cases vB_eq ew
      exact op_ge pins s σ H _ _ v u Q I rx ry ⟨i, j, rfl, rfl, ret_val R (.bl _) k⟩
    | _ => cases ew
  | _ => cases ew
/-! ### == and in -/
mutual
theorem dq_lay {K : PySem.W.Frag} {H : Hp} : ∀ (d : D) (v : V), Dq K H v d → d.canLay0 = true
  | .none, _, h => by simp only [PyData.canLay0]
  | .bool b, _, h => by simp only [PyData.canLay0]
  | .int i, _, h => by simp only [PyData.canLay0]
  | .str x, _, h => by cases h with | str _ ok => simpa only [PyData.canLay0] using ok
  | .list ds, _, h => by
    cases h with
    | lst q a => simp only [PyData.canLay0]; exact dqs_lay ds _ a
  | .tuple ds, _, h => by
    cases h with
    | tup q a => simp only [PyData.canLay0]; exact dqs_lay ds _ a
  | .dict _, _, h => by cases h
theorem dqs_lay {K : PySem.W.Frag} {H : Hp} : ∀ (ds : List D) (vs : List V), DqAll K H vs ds → PyData.canLayAll0 ds = true
  | [], _, h => by simp only [PyData.canLayAll0]
  | d :: ds, _, h => by
    cases h with
    | cons a b => simp only [PyData.canLayAll0, dq_lay d _ a, dqs_lay ds _ b, Bool.and_self]
end
theorem RP.lay {K : PySem.W.Frag} {ω : Om} {H : Hp} {v : V} {d : D} (h : RP K ω H v d) : d.canLay0 = true := dq_lay d v h.dp
end
end Rp

/-! RpW: t[::-1], t a list or a tuple. -/
namespace Rp
open PySem PySem.Spec PyProof.Rows L2 HT PySem.W
section
variable {prog : Program} {w : World} {A : Around} {E : Value → Shared → Prop} {s : Shared}
theorem sliceApplied_rev {sl : Addr} {vl vu vs : Value} {n : Nat} {Q : Int × Int × Nat → Shared → Prop} (hs : s.heap.IsSliceOf sl vl vu vs) (pl : IsPart vl none) (pu : IsPart vu none) (ps : IsPart vs (some (-1)))
    (h : Q ((n : Int) - 1, -1, n) s) : wpAny (model prog w) A (Builtin.Slice.sliceApplied (.ref sl) (pure (n : Int))) Q E s := by
  obtain ⟨os, hos, hcs, hds⟩ := id hs
  unfold Builtin.Slice.sliceApplied Builtin.Slice.sliceFields
  refine wpAny_bind (wpAny_bind (wpAny_field hos hds (x := vl) rfl (wpAny_bind (wpAny_field hos hds (x := vu) rfl (wpAny_bind (wpAny_field hos hds (x := vs) rfl (wpAny_pure ?_)))))))
  refine wpAny_bind (slicePart_ ps ?_)
  show wpAny _ _ (if ((-1 : Int) == 0) = true then _ else _) _ _ s
  rw [if_neg (by decide)]
  refine wpAny_bind (slicePart_ pl (wpAny_bind (slicePart_ pu (wpAny_bind (wpAny_pure ?_)))))
  have ea : Builtin.Slice.sliceAdjust none none (-1) (n : Int) = ((n : Int) - 1, -1) := by
    unfold Builtin.Slice.sliceAdjust
    simp
  have ep : Builtin.Slice.slicePlaces ((n : Int) - 1) (-1) (-1) = n := by
    unfold Builtin.Slice.slicePlaces
    have h1 : ¬ ((-1 : Int) > 0) := by omega
    rw [if_neg h1, show (- -1 : Int) = 1 by decide, Int.ediv_one]
    split <;> omega
  show wpAny _ _ (match Builtin.Slice.sliceAdjust none none (-1) (n : Int) with | (lo, hi) => pure (lo, (-1 : Int), Builtin.Slice.slicePlaces lo hi (-1))) _ _ s
  rw [ea]
  show wpAny _ _ (pure ((n : Int) - 1, (-1 : Int), Builtin.Slice.slicePlaces ((n : Int) - 1) (-1) (-1))) _ _ s
  rw [ep]
  exact wpAny_pure h
theorem pick_rev (xs : Array Value) : ((List.range xs.size).filterMap fun (m : Nat) => xs[(((xs.size : Nat) : Int) - 1 + (m : Int) * (-1)).toNat]?).toArray = xs.toList.reverse.toArray := by
  rw [← krv_pick]
  unfold slicePick
  rw [krv_bounds]
  show _ = ((sliceRange ((xs.size : Int) - 1) (-1) (-1)).filterMap (xs[·]?)).toArray
  rw [krv_sliceRange, List.filterMap_map]
  have key : ∀ l : List Nat, (∀ m ∈ l, m < xs.size) → (l.filterMap fun (m : Nat) => xs[(((xs.size : Nat) : Int) - 1 + (m : Int) * (-1)).toNat]?) = l.filterMap ((fun x => xs[x]?) ∘ fun k => xs.size - 1 - k) := by
    intro l
    induction l with
    | nil => intro _; rfl
    | cons m l ih =>
      intro hl
      have hm := hl m List.mem_cons_self
      have em : (((xs.size : Nat) : Int) - 1 + (m : Int) * (-1)).toNat = xs.size - 1 - m := by omega
      simp only [List.filterMap_cons, Function.comp, em]
      rw [ih fun x hx => hl x (List.mem_cons_of_mem _ hx)]
  rw [key _ fun m hm => List.mem_range.mp hm]
theorem getItem_tuple_rev {t sl : Addr} {items : Array Value} {vl vu vs : Value} {Q : Value → Shared → Prop} (ht : IsTup s.heap t items) (hs : s.heap.IsSliceOf sl vl vu vs) (pl : IsPart vl none) (pu : IsPart vu none) (ps : IsPart vs (some (-1)))
    (h : Q (.ref s.heap.objs.size) { s with heap := s.heap.push { cls := .type "tuple", data := .seq items.toList.reverse.toArray } })
    (hsz : items.size ≤ sizeLine) : wpAny (model prog w) A (getItem (.ref t) (.ref sl)) Q E s := by
  have htake : sizeOk (.seq items.toList.reverse.toArray) := by
    show items.toList.reverse.toArray.size ≤ sizeLine
    rw [List.size_toArray, List.length_reverse, Array.length_toList]
    exact hsz
  obtain ⟨os, hos, hcs, hds⟩ := id hs
  have hTs : s.TypeIs (.ref sl) "slice" := ⟨os, hos, hcs⟩
  unfold getItem
  try with_reducible refine wpAny_holding ?_
  first | refine wpAny_bind (wpAny_pure ?_) | skip
  refine wpAny_bind (wpAny_sequenceKey ht.typeIs (by decide) ?_)
  refine wpAny_bind (wpAny_callSpecial?_slot (name := Str.ofString "__getitem__") ht.typeIs PyProof.Rows.slot_tuple_getitem
    (wpAny_call_entry PyProof.Rows.slot_tuple_getitem ht.typeIs entry_tuple_getitem ?_ (args_tuple_getitem _ _)))
  show wpAny _ _ (Builtin.Tuple.tupleItemsOf (.ref t) >>= _) _ _ s
  refine wpAny_bind (tupleItemsOf_ ht ?_)
  refine wpAny_bind (wpAny_typeOf hTs ?_)
  rw [if_pos (by decide)]
  refine wpAny_bind (sliceApplied_rev hs pl pu ps ?_)
  have hno : ¬ (((((items.size : Nat) : Int) - 1) == 0 && (-1 : Int) == 1 && items.size == items.size) = true) := by
    intro q
    rw [Bool.and_eq_true, Bool.and_eq_true] at q
    exact absurd q.1.2 (by decide)
  show wpAny _ _ (if ((((items.size : Nat) : Int) - 1) == 0 && (-1 : Int) == 1 && items.size == items.size) = true then _ else _) _ _ s
  rw [if_neg hno, pick_rev]
  first
    | exact wpAny_bind (m := Builtin.Tuple.tupleExact _) (wpAny_newObj_type (wpAny_pure ⟨_, rfl, wpAny_pure h⟩) htake)
    | exact wpAny_bind (m := Builtin.Tuple.tupleExact _) (wpAny_newObj_type (wpAny_bind (wpAny_pure (wpAny_pure ⟨_, rfl, wpAny_pure h⟩))) htake)
    | exact wpAny_bind (wpAny_bind (m := Builtin.Tuple.tupleExact _) (wpAny_newObj_type (wpAny_pure (wpAny_pure ⟨_, rfl, wpAny_pure h⟩)) htake))
    | exact wpAny_bind (wpAny_bind (m := Builtin.Tuple.tupleExact _) (wpAny_newObj_type (wpAny_pure ⟨_, rfl, wpAny_pure h⟩) htake))
end
/-- xs[::-1], of a list or a tuple -/
noncomputable def tRevA (K : PySem.W.Frag) (te : TE) : TE := fun σ H Q => te σ H fun x H1 => (∃ z, x = .str z ∧ z.length ≤ 2 ∧ Q (.str ⟨z.cps.toList.reverse.toArray⟩) H1) ∨ ∃ a xs, x = .ref a ∧ ((SqL K H1 a xs ∧ ∀ p, H1 p = none → Q (.ref p) (upd H1 p (.lst xs.reverse))) ∨ (SqT K H1 a xs ∧ ∀ p, H1 p = none → Q (.ref p) (upd H1 p (.tup xs.reverse))))
theorem rev_made {z : Str} {t u : Tok} (h : z.length ≤ 2) : sliceMade z t none none (some (-1, u)) = Made.str ⟨z.cps.toList.reverse.toArray⟩ := by
  obtain ⟨⟨l⟩⟩ := z
  match l, h with
  | [], _ => rfl
  | [a], _ =>
    have e : slicePicked (⟨⟨[a]⟩⟩ : Str) none none (some (-1, u)) = [0] := by show Builtin.Str.strSliceIndices none none (-1) 1 = [0]; decide +kernel
    unfold sliceMade; rw [e]; rfl
  | [a, b], _ =>
    have e : slicePicked (⟨⟨[a, b]⟩⟩ : Str) none none (some (-1, u)) = [1, 0] := by show Builtin.Str.strSliceIndices none none (-1) 2 = [1, 0]; decide +kernel
    unfold sliceMade; rw [e]; rfl
  | _ :: _ :: _ :: _, h => exact absurd h (by show ¬ (List.length _ ≤ 2); simp)
theorem pe_revA {X : Cx} {te : TE} {e : Expr} {k : Nat} {p1 p2 p3 pos : Pos} (he : PE X e te) : PE X (.Subscript e (.Slice none none (some (.UnaryOp .USub (.Constant (.int 1) k p1) p2)) p3) pos) (tRevA X.K te) := by
  refine ⟨fun pins s σ H Q I h => ?_⟩
  refine Subscript_ (thn (he.run pins s σ H _ I h) fun v s1 ⟨x, H1, I1, r1, q1⟩ => ?_)
  have hst : PO X (some (.UnaryOp .USub (.Constant (.int 1) k p1) p2)) (tPart (tUn (rU fun i => .int (-i)) (tC (.int 1)))) := po_some (pe_un un_neg pe_int)
  rcases q1 with ⟨z, ex, hz, q⟩ | ⟨a, xs, ex, q⟩
  · subst ex
    obtain ⟨t, rfl⟩ := r1
    refine wpAny_Slice (thn (po_none.run pins s1 σ H1 (fun o H2 => o = none ∧ H2 = H1) I1 ⟨rfl, rfl⟩) fun vl s2 ⟨l, H2, I2, pl, el, e2⟩ => ?_)
    subst el e2
    refine thn (po_none.run pins s2 σ H2 (fun o H3 => o = none ∧ H3 = H2) I2 ⟨rfl, rfl⟩) fun vu s3 ⟨u, H3, I3, pu, eu, e3⟩ => ?_
    subst eu e3
    refine thn (hst.run pins s3 σ H3 (fun o H4 => o = some (-1) ∧ H4 = H3) I3 ⟨1, rfl, -1, rfl, rfl, rfl⟩) fun vs s4 ⟨o, H4, I4, ps, eo, e4⟩ => ?_
    subst eo e4
    have I5 : Inv X pins σ H4 { s4 with heap := s4.heap.push { cls := .type "slice", data := .fields #[vl, vu, vs] } } := I4.kept (t' := s4.toks) fun b ob q => Heap.get?_push_of_some _ q
    obtain ⟨l, rfl, el⟩ := IsPart.raw pl
    obtain ⟨u, rfl, eu⟩ := IsPart.raw pu
    obtain ⟨w, rfl, ew⟩ := IsPart.raw ps
    cases l with
    | some _ => cases el
    | none =>
    cases u with
    | some _ => cases eu
    | none =>
    cases w with
    | none => cases ew
    | some w =>
    obtain ⟨w1, w2⟩ := w
    cases ew
    show wpAny (model X.prog X.w) X.A (subscriptTail e (.Slice none none (some (.UnaryOp .USub (.Constant (.int 1) k p1) p2)) p3) (.str z t) (.ref s4.heap.objs.size)) (EP X pins σ Q) X.xe { s4 with heap := s4.heap.push { cls := .type "slice", data := .fields #[partValue none, partValue none, partValue (some (-1, w2))] } }
    refine tail_any (ops := [.str z t, .ref s4.heap.objs.size]) (typeIs_str _ _ _) (F.slot_str_getitem.lookup) ?_ (by with_unfolding_all rfl)
    refine wpAny_getItem_str_slice (l := none) (u := none) (st := some (-1, w2)) (Heap.IsSliceOf.new _ (partValue none) (partValue none) (partValue (some (-1, w2)))) rfl ?_
    rw [rev_made hz]
    refine ⟨?_, .str _, H4, I5.tok _, ⟨_, rfl⟩, q⟩
    show z.cps.toList.reverse.toArray.size ≤ sizeLine
    have : z.cps.toList.length ≤ 2 := hz
    rw [List.size_toArray, List.length_reverse]
    exact Nat.le_trans this (by decide)
  subst ex
  cases r1
  refine wpAny_Slice (thn (po_none.run pins s1 σ H1 (fun o H2 => o = none ∧ H2 = H1) I1 ⟨rfl, rfl⟩) fun vl s2 ⟨l, H2, I2, pl, el, e2⟩ => ?_)
  subst el e2
  refine thn (po_none.run pins s2 σ H2 (fun o H3 => o = none ∧ H3 = H2) I2 ⟨rfl, rfl⟩) fun vu s3 ⟨u, H3, I3, pu, eu, e3⟩ => ?_
  subst eu e3
  refine thn (hst.run pins s3 σ H3 (fun o H4 => o = some (-1) ∧ H4 = H3) I3 ⟨1, rfl, -1, rfl, rfl, rfl⟩) fun vs s4 ⟨o, H4, I4, ps, eo, e4⟩ => ?_
  subst eo e4
  have I5 : Inv X pins σ H4 { s4 with heap := s4.heap.push { cls := .type "slice", data := .fields #[vl, vu, vs] } } := I4.kept (t' := s4.toks) fun b ob q => Heap.get?_push_of_some _ q
  rcases q with ⟨hx, q⟩ | ⟨hx, q⟩
  · obtain ⟨its, r, ht, hz⟩ := I5.list hx
    have hlen := r.length
    show wpAny (model X.prog X.w) X.A (subscriptTail e (.Slice none none (some (.UnaryOp .USub (.Constant (.int 1) k p1) p2)) p3) (.ref a) (.ref s4.heap.objs.size)) (EP X pins σ Q) X.xe { s4 with heap := s4.heap.push { cls := .type "slice", data := .fields #[vl, vu, vs] } }
    refine tail_any (ops := [.ref a, .ref s4.heap.objs.size]) ht.isList.typeIs (PySem.slot_list_getitem.lookup) ?_ (by with_unfolding_all rfl)
    refine wpAny_getItem_list_slice ht.isList (Heap.IsSliceOf.new _ vl vu vs) pl pu ps (by decide) ?_ (by rw [List.size_toArray]; omega)
    rw [PySem.W.krv_pick]
    refine ⟨.ref _, _, I5.laid (t' := s4.toks) (o := .lst xs.reverse) (fun b ob q => Heap.get?_push_of_some _ q) (Nat.le_refl _) ?_, rfl, q _ (I5.hok.fresh (Nat.le_refl _))⟩
    exact ⟨by rw [List.length_reverse]; exact hz, _, 0, r.reverse, Heap.get?_push_size _ rfl⟩
  · obtain ⟨its, r, ht, hz⟩ := I5.tuple hx
    have hlen := r.length
    show wpAny (model X.prog X.w) X.A (subscriptTail e (.Slice none none (some (.UnaryOp .USub (.Constant (.int 1) k p1) p2)) p3) (.ref a) (.ref s4.heap.objs.size)) (EP X pins σ Q) X.xe { s4 with heap := s4.heap.push { cls := .type "slice", data := .fields #[vl, vu, vs] } }
    refine tail_any (ops := [.ref a, .ref s4.heap.objs.size]) ht.typeIs (PyProof.Rows.slot_tuple_getitem.lookup) ?_ (by with_unfolding_all rfl)
    refine getItem_tuple_rev ht (Heap.IsSliceOf.new _ vl vu vs) pl pu ps ?_ (by rw [List.size_toArray]; omega)
    refine ⟨.ref _, _, I5.laid (t' := s4.toks) (o := .tup xs.reverse) (fun b ob q => Heap.get?_push_of_some _ q) (Nat.le_refl _) ?_, rfl, q _ (I5.hok.fresh (Nat.le_refl _))⟩
    exact ⟨by rw [List.length_reverse]; exact hz, _, r.reverse, IsTup.new _ _⟩
end Rp

/-! Rp, part 5: equality, membership, subscripts, slices, built-ins. -/
namespace Rp
open PySem PySem.Spec PyProof.Rows L2

section
variable {C : C0} {X : Cx} {a b : Expr} {ma mb : Ex} {p : P}
theorem RP.reads {pins : List (Addr × Obj)} {σ : L2.St} {H : Hp} {s : Shared} {ω : Om} {v : V} {u : Value} {d : D} (hK : X.K = C.K) (I : Inv X pins σ H s) (h : RP C.K ω H v d) (r : RelV v u) : ∃ as, Reads s.heap u d as :=
  Dp.reads I d v u (hK ▸ dq_dp d v h.dp) r
theorem depth_ok {d e : D} (h : dOk d e = true) : min d.depth e.depth ≤ 190 := by
  simp only [dOk, Bool.or_eq_true, decide_eq_true_eq] at h
  omega
theorem opD_eq (hK : X.K = C.K) (hu : X.A.units + 200 < cLine) : OpR X (compareOp .Eq) (rD2 C .eq) := by
  intro pins s σ H x y v u Q I rx ry ⟨σ', d, e, w, G, ω, c, R, q1, q2, ew, k⟩
  simp only [prim] at ew
  split at ew
  · rename_i z
    cases vB_eq ew
    obtain ⟨as, r1⟩ := q1.reads hK I rx
    obtain ⟨bs, r2⟩ := q2.reads hK I ry
    have := depth_ok z
    exact SeqAt.compareEq_reads r1 r2 q1.lay q2.lay (by omega) ⟨.bl _, H, I, rfl, ret_val R (.bl _) k⟩
  · cases ew
theorem opD_ne (hK : X.K = C.K) (hu : X.A.units + 200 < cLine) : OpR X (compareOp .NotEq) (rD2 C .ne) := by
  intro pins s σ H x y v u Q I rx ry ⟨σ', d, e, w, G, ω, c, R, q1, q2, ew, k⟩
  simp only [prim] at ew
  split at ew
  · rename_i z
    cases vB_eq ew
    obtain ⟨as, r1⟩ := q1.reads hK I rx
    obtain ⟨bs, r2⟩ := q2.reads hK I ry
    have := depth_ok z
    exact SeqAt.compareNe_reads r1 r2 q1.lay q2.lay (by omega) ⟨.bl _, H, I, rfl, ret_val R (.bl _) k⟩
  · cases ew
theorem pIn_cases {d e : D} {t : Bool} (h : pIn d e = some t) : (∃ l, (e = .tuple l ∨ e = .list l) ∧ d.depth ≤ 180 ∧ t = anyEqv d l) ∨ ∃ c z, d = .str ⟨#[c]⟩ ∧ e = .str z ∧ t = decide (c ∈ z.cps.toList) := by
  unfold pIn at h
  split at h
  · rename_i l
    split at h
    · rename_i z; cases h; exact .inl ⟨l, .inl rfl, by simpa using z, rfl⟩
    · cases h
  · rename_i l
    split at h
    · rename_i z; cases h; exact .inl ⟨l, .inr rfl, by simpa using z, rfl⟩
    · cases h
  · rename_i c z
    split at h
    · rename_i c' e
      cases h
      refine .inr ⟨c', z, ?_, rfl, rfl⟩
      have : c = #[c'] := by
        have e2 : c.toList = (#[c'] : Array Nat).toList := by rw [e]
        exact Array.toList_inj.mp e2
      rw [this]
    · cases h
  · cases h
theorem lay_list {l : List D} (h : PyData.canLay0 (.list l) = true) : PyData.canLayAll0 l = true := by simpa only [PyData.canLay0] using h
theorem lay_tuple {l : List D} (h : PyData.canLay0 (.tuple l) = true) : PyData.canLayAll0 l = true := by simpa only [PyData.canLay0] using h
theorem opD_inn (hK : X.K = C.K) (hu : X.A.units + 200 < cLine) : OpR X (compareOp .In) (rD2 C .inn) := by
  intro pins s σ H x y v u Q I rx ry ⟨σ', d, e, w, G, ω, c, R, q1, q2, ew, k⟩
  simp only [prim, Option.map_eq_some_iff] at ew
  obtain ⟨t, ht, rfl⟩ := ew
  rcases pIn_cases ht with ⟨l, hl, hd, rfl⟩ | ⟨c', z, rfl, rfl, rfl⟩
  · obtain ⟨as, r1⟩ := q1.reads hK I rx
    obtain ⟨bs, r2⟩ := q2.reads hK I ry
    rcases hl with rfl | rfl
    · exact SeqAt.in_tuple_reads r2 r1 (lay_tuple q2.lay) q1.lay (by omega) ⟨.bl _, H, I, rfl, ret_val R (.bl _) k⟩
    · exact SeqAt.in_list_reads r2 r1 (lay_list q2.lay) q1.lay (by omega) ⟨.bl _, H, I, rfl, ret_val R (.bl _) k⟩
  · cases q1.str; cases q2.str
    exact op_in_sign pins s σ H _ _ v u Q I rx ry ⟨c', z, rfl, rfl, ret_val R (.bl _) k⟩
theorem opD_nin (hK : X.K = C.K) (hu : X.A.units + 200 < cLine) : OpR X (compareOp .NotIn) (rD2 C .nin) := by
  intro pins s σ H x y v u Q I rx ry ⟨σ', d, e, w, G, ω, c, R, q1, q2, ew, k⟩
  simp only [prim, Option.map_eq_some_iff] at ew
  obtain ⟨t, ht, rfl⟩ := ew
  rcases pIn_cases ht with ⟨l, hl, hd, rfl⟩ | ⟨c', z, rfl, rfl, rfl⟩
  · obtain ⟨as, r1⟩ := q1.reads hK I rx
    obtain ⟨bs, r2⟩ := q2.reads hK I ry
    rcases hl with rfl | rfl
    · exact SeqAt.notIn_tuple_reads r2 r1 (lay_tuple q2.lay) q1.lay (by omega) ⟨.bl _, H, I, rfl, ret_val R (.bl _) k⟩
    · exact SeqAt.notIn_list_reads r2 r1 (lay_list q2.lay) q1.lay (by omega) ⟨.bl _, H, I, rfl, ret_val R (.bl _) k⟩
  · cases q1.str; cases q2.str
    exact op_notIn_sign pins s σ H _ _ v u Q I rx ry ⟨c', z, rfl, rfl, ret_val R (.bl _) k⟩
theorem bl_is {ω : Om} {H : Hp} {x : V} {v : Value} {d : D} (q : RP C.K ω H x d) (r : RelV x v) (b : Bool) : plainIs v (.bool b) = true ∧ (v == Value.bool b) = isBl b d := by
  have ne : ∀ {v : Value}, v ≠ .bool b → (v == Value.bool b) = false := fun h => beq_eq_false_iff_ne.mpr h
  rcases q with q | ⟨ds, a, vs, rfl, rfl, _⟩
  · cases q with
    | non => cases (show v = Value.none from r); exact ⟨rfl, ne (fun z => nomatch z)⟩
    | bl a =>
      cases (show v = Value.bool a from r)
      refine ⟨rfl, ?_⟩
      by_cases e : a = b
      · subst e; rw [beq_self_eq_true]; simp [isBl]
      · rw [ne (fun z => e (Value.bool.inj z))]; simp [isBl, e]
    | int i => obtain ⟨t, rfl⟩ := (show ∃ t, v = Value.int i t from r); exact ⟨rfl, ne (fun z => nomatch z)⟩
    | str x ok => obtain ⟨t, rfl⟩ := (show ∃ t, v = Value.str x t from r); exact ⟨rfl, ne (fun z => nomatch z)⟩
    | lst _ _ => cases r; exact ⟨rfl, ne (fun z => nomatch z)⟩
    | tup _ _ => cases r; exact ⟨rfl, ne (fun z => nomatch z)⟩
  · cases r; exact ⟨rfl, ne (fun z => nomatch z)⟩
theorem opD_isT : OpR X (compareOp .Is) (rD2 C .isT) := by
  intro pins s σ H x y v u Q I rx ry ⟨σ', d, e, w, G, ω, c, R, q1, q2, ew, k⟩
  cases e with
  | bool b =>
    have ew : vB (isBl b d) = some w := by cases d <;> exact ew
    cases vB_eq ew
    cases q2.bool
    cases (show u = Value.bool b from ry)
    obtain ⟨h1, h2⟩ := bl_is q1 rx b
    exact wpAny_is_plain h1 (by rw [h2]; exact ⟨.bl _, H, I, rfl, ret_val R (.bl _) k⟩)
  | _ => cases d <;> cases ew
theorem opD_ntT : OpR X (compareOp .IsNot) (rD2 C .ntT) := by
  intro pins s σ H x y v u Q I rx ry ⟨σ', d, e, w, G, ω, c, R, q1, q2, ew, k⟩
  cases e with
  | bool b =>
    have ew : vB (!isBl b d) = some w := by cases d <;> exact ew
    cases vB_eq ew
    cases q2.bool
    cases (show u = Value.bool b from ry)
    obtain ⟨h1, h2⟩ := bl_is q1 rx b
    exact wpAny_isNot_plain h1 (by rw [h2]; exact ⟨.bl _, H, I, rfl, ret_val R (.bl _) k⟩)
  | _ => cases d <;> cases ew
/-! ### one operand -/
/-- primitives that tell True or False -/
noncomputable def P.isB : P → Bool
  | .eq | .ne | .lt | .le | .gt | .ge | .isN | .ntN | .inn | .nin | .isT | .ntT => true
  | .isi _ => true
  | _ => false
theorem prim_bl {p : P} {ds : List D} {w : W} (hp : p.isB = true) (h : prim p ds = some w) : ∃ t, w = .val (.bool t) := by
  have two : ∀ {P : List D → Prop}, P [] → (∀ a, P [a]) → (∀ a b, P [a, b]) → (∀ a b c r, P (a :: b :: c :: r)) → ∀ ds, P ds := fun h0 h1 h2 h3 ds => match ds with
    | [] => h0
    | [a] => h1 a
    | [a, b] => h2 a b
    | a :: b :: c :: r => h3 a b c r
  have vb : ∀ {t : Bool}, vB t = some w → ∃ t, w = .val (.bool t) := fun e => ⟨_, vB_eq e⟩
  revert h
  cases p with
  | eq => exact two (P := fun ds => prim .eq ds = some w → _) (fun h => nomatch h) (fun _ h => nomatch h) (fun a b h => by simp only [prim] at h; split at h; exact vb h; cases h) (fun _ _ _ _ h => nomatch h) ds
  | ne => exact two (P := fun ds => prim .ne ds = some w → _) (fun h => nomatch h) (fun _ h => nomatch h) (fun a b h => by simp only [prim] at h; split at h; exact vb h; cases h) (fun _ _ _ _ h => nomatch h) ds
  | lt => exact two (P := fun ds => prim .lt ds = some w → _) (fun h => by simp [prim] at h) (fun a h => by cases a <;> simp [prim] at h) (fun a b h => by cases a <;> cases b <;> first | exact vb h | cases h) (fun a b _ _ h => by cases a <;> cases b <;> simp [prim] at h) ds
  | le => exact two (P := fun ds => prim .le ds = some w → _) (fun h => by simp [prim] at h) (fun a h => by cases a <;> simp [prim] at h) (fun a b h => by cases a <;> cases b <;> first | exact vb h | cases h) (fun a b _ _ h => by cases a <;> cases b <;> simp [prim] at h) ds
  | gt => exact two (P := fun ds => prim .gt ds = some w → _) (fun h => by simp [prim] at h) (fun a h => by cases a <;> simp [prim] at h) (fun a b h => by cases a <;> cases b <;> first | exact vb h | cases h) (fun a b _ _ h => by cases a <;> cases b <;> simp [prim] at h) ds
  | ge => exact two (P := fun ds => prim .ge ds = some w → _) (fun h => by simp [prim] at h) (fun a h => by cases a <;> simp [prim] at h) (fun a b h => by cases a <;> cases b <;> first | exact vb h | cases h) (fun a b _ _ h => by cases a <;> cases b <;> simp [prim] at h) ds
  | isN => exact two (P := fun ds => prim .isN ds = some w → _) (fun h => nomatch h) (fun _ h => vb h) (fun a b h => nomatch h) (fun _ _ _ _ h => nomatch h) ds
  | ntN => exact two (P := fun ds => prim .ntN ds = some w → _) (fun h => nomatch h) (fun _ h => vb h) (fun a b h => nomatch h) (fun _ _ _ _ h => nomatch h) ds
  | isi t => exact two (P := fun ds => prim (.isi t) ds = some w → _) (fun h => nomatch h) (fun _ h => vb h) (fun a b h => nomatch h) (fun _ _ _ _ h => nomatch h) ds
  | inn => exact two (P := fun ds => prim .inn ds = some w → _) (fun h => nomatch h) (fun _ h => nomatch h) (fun a b h => by simp only [prim, Option.map_eq_some_iff] at h; obtain ⟨t, _, e⟩ := h; exact ⟨t, e.symm⟩) (fun _ _ _ _ h => nomatch h) ds
  | nin => exact two (P := fun ds => prim .nin ds = some w → _) (fun h => nomatch h) (fun _ h => nomatch h) (fun a b h => by simp only [prim, Option.map_eq_some_iff] at h; obtain ⟨t, _, e⟩ := h; exact ⟨!t, e.symm⟩) (fun _ _ _ _ h => nomatch h) ds
  | isT => exact two (P := fun ds => prim .isT ds = some w → _) (fun h => nomatch h) (fun a h => by cases a <;> simp [prim] at h) (fun a b h => by cases a <;> cases b <;> first | exact vb h | cases h) (fun a b _ _ h => by cases a <;> cases b <;> simp [prim] at h) ds
  | ntT => exact two (P := fun ds => prim .ntT ds = some w → _) (fun h => nomatch h) (fun a h => by cases a <;> simp [prim] at h) (fun a b h => by cases a <;> cases b <;> first | exact vb h | cases h) (fun a b _ _ h => by cases a <;> cases b <;> simp [prim] at h) ds
  | _ => cases hp
theorem isN_ok {ω : Om} {H : Hp} {x : V} {d : D} (h : RP C.K ω H x d) : decide (x = .non) = isNone d := by
  rcases h with h | ⟨ds, a, vs, rfl, rfl, _⟩
  · cases h <;> rfl
  · rfl
/-- one operand that is read -/
theorem one_W {σ : L2.St} {H : Hp} {Q : VK} (h : tW C (.pr p (.cons ma .nil)) σ H Q) : tP C ma σ H fun x H1 => ∃ d w G ω c, Rel C.n C.K G ω σ H1 c ∧ RP C.K ω H1 x d ∧ prim p [d] = some w ∧ Wants C G σ ω H1 c w Q := by
  obtain ⟨G, ω, c, R, q⟩ := h
  refine ⟨G, ω, c, R, ?_⟩
  simp only [den, Den.of, denPs, Rs.bind_assoc, Rs.bind_ok] at q
  refine q.bind fun d c1 ω1 H1 x _ s1 R1 q1 p1 => ?_
  cases ew : prim p [d] with
  | none => rw [ew] at p1; exact p1.elim
  | some w =>
    rw [ew] at p1
    exact ⟨d, w, G, ω1, c1, R1, q1, ew, p1⟩
theorem one_T {σ : L2.St} {H : Hp} {Q : Bool → Hp → Prop} (hb : ∀ ds w, prim p ds = some w → ∃ t, w = .val (.bool t)) (h : tT C (.pr p (.cons ma .nil)) σ H Q) :
    tP C ma σ H fun x H1 => ∃ d t G ω c, Rel C.n C.K G ω σ H1 c ∧ RP C.K ω H1 x d ∧ prim p [d] = some (.val (.bool t)) ∧ Q t H1 := by
  obtain ⟨G, ω, c, R, q⟩ := h
  refine ⟨G, ω, c, R, ?_⟩
  simp only [den, Den.of, denPs, Rs.bind_assoc, Rs.bind_ok, truthR, frzR] at q
  refine q.bind fun d c1 ω1 H1 x _ s1 R1 q1 p1 => ?_
  cases ew : prim p [d] with
  | none => rw [ew] at p1; exact p1.elim
  | some w =>
    rw [ew] at p1
    obtain ⟨t, rfl⟩ := hb _ _ ew
    exact ⟨d, t, G, ω1, c1, R1, q1, ew, p1 ω1 H1 t (Stp.refl R1.dom) R1 rfl⟩
theorem tP_mono {m : Ex} {σ : L2.St} {H : Hp} {Q Q' : VK} (h : tP C m σ H Q) (f : ∀ x H1, Q x H1 → Q' x H1) : tP C m σ H Q' := by
  obtain ⟨G, ω, c, R, q⟩ := h
  exact ⟨G, ω, c, R, q.mono f⟩
theorem se_isN {j : Nat} {pos pos' : Pos} (ha : SE C X ma a) : SE C X (.pr .isN (.cons ma .nil)) (.Compare a [.Is] [.Constant .none j pos'] pos) := by
  refine .mk' rfl (pe_imp (pe_cmp (pc_isN ha.p) rfl) fun σ H Q h => tP_mono (one_W h) fun x H1 ⟨d, w, G, ω, c, R, q, ew, k⟩ => ?_) (pt_imp (pt_cmp (pc_isN ha.p) rfl) fun σ H Q h => tP_mono (one_T (fun ds w e => ?_) h) fun x H1 ⟨d, t, G, ω, c, R, q, ew, k⟩ => ?_)
  · cases vB_eq ew
    rw [isN_ok q]
    exact ret_val R (.bl _) k
  · exact prim_bl rfl e
  · cases vB_eq ew
    exact ⟨_, congrArg V.bl (isN_ok q), k⟩
theorem se_ntN {j : Nat} {pos pos' : Pos} (ha : SE C X ma a) : SE C X (.pr .ntN (.cons ma .nil)) (.Compare a [.IsNot] [.Constant .none j pos'] pos) := by
  refine .mk' rfl (pe_imp (pe_cmp (pc_notN ha.p) rfl) fun σ H Q h => tP_mono (one_W h) fun x H1 ⟨d, w, G, ω, c, R, q, ew, k⟩ => ?_) (pt_imp (pt_cmp (pc_notN ha.p) rfl) fun σ H Q h => tP_mono (one_T (fun ds w e => ?_) h) fun x H1 ⟨d, t, G, ω, c, R, q, ew, k⟩ => ?_)
  · cases vB_eq ew
    rw [isN_ok q]
    exact ret_val R (.bl _) k
  · exact prim_bl rfl e
  · cases vB_eq ew
    refine ⟨_, ?_, k⟩
    rw [isN_ok q]
theorem se_neg {pos : Pos} (hK : X.K = C.K) (ha : SE C X ma a) : SE C X (.pr .neg (.cons ma .nil)) (.UnaryOp .USub a pos) :=
  .of hK rfl (fun _ => rfl) (fun _ => rfl) (pe_imp (pe_un un_neg ha.p) fun σ H Q h => tP_mono (one_W h) fun x H1 ⟨d, w, G, ω, c, R, q, ew, k⟩ => by
    cases d with
    | int i => cases q.int; cases vI_eq ew; exact ⟨i, rfl, ret_val R (.int _) k⟩
    | _ => cases ew)
theorem strOk_rev {s : Str} (h : PyData.strOk s = true) : PyData.strOk ⟨s.cps.toList.reverse.toArray⟩ = true := by
  unfold PyData.strOk at *
  rw [Array.all_eq_true'] at *
  intro x hx
  exact h x (by simpa using hx)
theorem se_rev {j : Nat} {p1 p2 p3 pos : Pos} (hK : X.K = C.K) (ha : SE C X ma a) : SE C X (.pr .rev (.cons ma .nil)) (.Subscript a (.Slice none none (some (.UnaryOp .USub (.Constant (.int 1) j p1) p2)) p3) pos) :=
  .of hK rfl (fun _ => rfl) (fun _ => rfl) (pe_imp (pe_revA ha.p) fun σ H Q h => tP_mono (one_W h) fun x H1 ⟨d, w, G, ω, c, R, q, ew, k⟩ => by
    cases d with
    | list l =>
      cases ew
      obtain ⟨a, vs, rfl, t1, r1⟩ := q.list
      exact .inr ⟨a, vs, rfl, .inl ⟨.inl t1, fun p hp => ret_own R hp (dps_rev r1) k⟩⟩
    | tuple l =>
      cases ew
      obtain ⟨a, vs, rfl, t1, r1⟩ := q.tuple
      exact .inr ⟨a, vs, rfl, .inr ⟨hK ▸ t1, fun p hp => ret_tup R hp (dps_rev r1) k⟩⟩
    | str z =>
      have ok := q.strOk
      cases q.str
      simp only [prim] at ew
      split at ew
      · rename_i hz
        cases ew
        exact .inl ⟨z, rfl, hz, ret_val R (.str _ (strOk_rev ok)) k⟩
      · cases ew
    | _ => cases ew)
/-! ### subscripts -/
theorem atI_dps {K : PySem.W.Frag} {H : Hp} {vs : List V} {ds : List D} {i : Int} {d : D} (h : DqAll K H vs ds) (e : atI ds i = some d) : ∃ v, atI vs i = some v ∧ Dq K H v d := by
  unfold atI at e ⊢
  rw [← dps_len h] at e
  cases q : ixN vs.length i with
  | none => rw [q] at e; cases e
  | some j =>
    rw [q] at e
    exact dps_get' h e
theorem strOk_one {s : Str} {i : Int} {c : Nat} (h : PyData.strOk s = true) (e : atI s.cps.toList i = some c) : PyData.strOk ⟨#[c]⟩ = true := by
  obtain ⟨j, _, e2, _⟩ := atI_get e
  unfold PyData.strOk at *
  rw [Array.all_eq_true] at h
  have hm : c ∈ s.cps := by
    rw [← Array.mem_toList_iff]
    exact List.mem_of_getElem? e2
  obtain ⟨i', hi, e3⟩ := Array.getElem_of_mem hm
  have := h i' hi
  rw [e3] at this
  simpa using this
theorem ixD_ok (hK : X.K = C.K) : IxR X (rD2 C .ix) := by
  intro value slice pins s σ H x y v u Q I rx ry ⟨σ', d, e, w, G, ω, c, R, q1, q2, ew, k⟩ hs
  cases e with
  | int i =>
    cases q2.int
    cases d with
    | tuple l =>
      simp only [prim, pIx, ixD, Option.map_eq_some_iff] at ew
      obtain ⟨z, e1, rfl⟩ := ew
      obtain ⟨a, vs, rfl, t1, r1⟩ := q1.tuple
      obtain ⟨z', e2, q⟩ := atI_dps r1 e1
      exact ix_tup value slice pins s σ H _ _ v u Q I rx ry ⟨a, vs, i, z', rfl, rfl, hK ▸ t1, e2, ret_val R q k⟩ hs
    | list l =>
      simp only [prim, pIx, ixD, Option.map_eq_some_iff] at ew
      obtain ⟨z, e1, rfl⟩ := ew
      obtain ⟨a, vs, rfl, t1, r1⟩ := q1.list
      obtain ⟨z', e2, q⟩ := atI_dps r1 e1
      exact ix_list value slice pins s σ H _ _ v u Q I rx ry ⟨a, vs, i, z', rfl, rfl, .inl t1, e2, ret_val R q k⟩ hs
    | str z =>
      simp only [prim, pIx, ixD] at ew
      split at ew
      · rename_i hz
        rw [Option.map_eq_some_iff] at ew
        obtain ⟨c', e1, rfl⟩ := ew
        cases q1.str
        exact ix_str value slice pins s σ H _ _ v u Q I rx ry ⟨z, i, c', rfl, rfl, by rw [← big_line]; exact hz, e1, ret_val R (.str _ (strOk_one q1.strOk e1)) k⟩ hs
      · cases ew
    | _ => cases ew
  | _ => cases d <;> cases ew
end
end Rp

/-! Rp, part 6: slices, built-in calls, chains, calls of defs. -/
namespace Rp
open PySem PySem.Spec PyProof.Rows L2

section
variable {C : C0} {X : Cx} {a b : Expr} {ma mb : Ex} {p : P}
/-! ### slices -/
noncomputable def rSlD (C : C0) : V → Option Int → Option Int → Hp → VK → Prop := fun x lo hi H Q => ∃ σ d w G ω c, Rel C.n C.K G ω σ H c ∧ RP C.K ω H x d ∧ sliceD d lo hi = some w ∧ Wants C G σ ω H c w Q
theorem cut_dps {K : PySem.W.Frag} {H : Hp} {vs : List V} {ds : List D} (h : DqAll K H vs ds) (lo hi : Option Int) : DqAll K H (cutV vs lo hi) (cutL ds lo hi) := by
  unfold cutV cutL
  rw [dps_len h]
  exact dps_take _ (dps_drop _ h)
theorem cut_whole {α : Type} {l : List α} {lo hi : Option Int} (h : HT.sIx l.length 0 lo = 0 ∧ HT.sIx l.length l.length hi = l.length) : cutL l lo hi = l := by
  unfold cutL
  rw [h.1, h.2]
  simp
theorem strOk_cut {z : Str} {lo hi : Option Int} (h : PyData.strOk z = true) : PyData.strOk ⟨(cutL z.cps.toList lo hi).toArray⟩ = true := by
  unfold PyData.strOk at *
  rw [Array.all_eq_true] at h
  rw [List.all_toArray, List.all_eq_true]
  intro x hx
  have hm : x ∈ z.cps := by
    rw [← Array.mem_toList_iff]
    unfold cutL at hx
    exact List.mem_of_mem_drop (List.mem_of_mem_take hx)
  obtain ⟨i, hi', e⟩ := Array.getElem_of_mem hm
  have := h i hi'
  rw [e] at this
  exact this
theorem slD_ok (hK : X.K = C.K) : SlR X (rSlD C) := by
  intro pins s σ H x v vl vu lo hi sl Q I rx hs pl pu ⟨σ', d, w, G, ω, c, R, q, ew, k⟩
  cases d with
  | list l =>
    cases ew
    obtain ⟨a, vs, rfl, t1, r1⟩ := q.list
    exact sl_list pins s σ H _ v vl vu lo hi sl Q I rx hs pl pu ⟨a, vs, rfl, .inl t1, fun p hp => ret_own R hp (cut_dps r1 lo hi) k⟩
  | tuple l =>
    cases ew
    obtain ⟨a, vs, rfl, t1, r1⟩ := q.tuple
    refine sl_tupA pins s σ H _ v vl vu lo hi sl Q I rx hs pl pu ⟨a, vs, rfl, hK ▸ t1, fun e => ?_, fun _ p hp => ret_tup R hp (cut_dps r1 lo hi) k⟩
    rw [dps_len r1] at e
    rcases q with q | ⟨_, _, _, z, _⟩
    · rw [cut_whole e] at k
      exact ret_val R q k
    · cases z
  | str z =>
    simp only [sliceD] at ew
    split at ew
    · rename_i hz
      cases ew
      cases q.str
      exact sl_str pins s σ H _ v vl vu lo hi sl Q I rx hs pl pu ⟨z, rfl, by rw [← big_line]; exact hz, ret_val R (.str _ (strOk_cut q.strOk)) k⟩
    · cases ew
  | _ => cases ew
/-- a slice's bound -/
inductive SO (C : C0) (X : Cx) : Exs → Option Expr → Prop
  | none : SO C X .nil none
  | some {m : Ex} {e : Expr} : SE C X m e → SO C X (.cons m .nil) (some e)
noncomputable def rO : Hp → Om → Hp → Option Int → Option Int → Prop := fun _ _ _ a b => a = b
instance : RM rO := ⟨fun _ _ _ _ _ _ _ h => h⟩
theorem po_D {ms : Exs} {o : Option Expr} (h : SO C X ms o) : PO X o (tG C (denO C.k ms) rO) := by
  cases h with
  | none => exact ⟨fun pins s σ H Q I ⟨G, ω, c, R, q⟩ => po_none.run pins s σ H Q I (q ω H none (Stp.refl R.dom) R rfl)⟩
  | some h =>
    refine ⟨fun pins s σ H Q I ⟨G, ω, c, R, q⟩ => (po_some h.p).run pins s σ H Q I ⟨G, ω, c, R, ?_⟩⟩
    simp only [denO, bndR] at q
    refine q.bind fun d c1 ω1 H1 x _ s1 R1 q1 p1 => ?_
    cases d with
    | int i => cases RP.int q1; exact ⟨i, rfl, p1 ω1 H1 _ (Stp.refl R1.dom) R1 rfl⟩
    | _ => exact p1.elim
theorem se_slc {ml mh : Exs} {lo hi : Option Expr} {p2 pos : Pos} (hK : X.K = C.K) (ha : SE C X ma a) (hl : SO C X ml lo) (hh : SO C X mh hi) : SE C X (.slc ma ml mh) (.Subscript a (.Slice lo hi none p2) pos) := by
  refine .of hK rfl (fun _ => rfl) (fun _ => rfl) (pe_imp (pe_slice (slD_ok hK) ha.p (po_D hl) (po_D hh)) fun σ H Q ⟨G, ω, c, R, q⟩ => ⟨G, ω, c, R, ?_⟩)
  simp only [den, Den.of] at q
  refine q.bind fun d c1 ω1 H1 x _ s1 R1 q1 p1 => ⟨G, ω1, c1, R1, p1.bind fun l c2 ω2 H2 l' _ s2 R2 e2 p2 => ⟨G, ω2, c2, R2, p2.bind fun u c3 ω3 H3 u' _ s3 R3 e3 p3 => ?_⟩⟩
  cases e2
  cases e3
  cases ew : sliceD d l u with
  | none => rw [ew] at p3; exact p3.elim
  | some w =>
    rw [ew] at p3
    exact ⟨σ, d, w, G, ω3, c3, R3, RP.step (RP.step q1 s2) s3, ew, p3⟩

/-! ### built-in calls -/
theorem call_W {es : List Expr} {ms : Exs} {σ : L2.St} {H : Hp} {Q : VK} (h : tW C (.pr p ms) σ H Q) : tCB (rDn C p) (tPs C ms) σ H Q := by
  obtain ⟨G, ω, c, R, q⟩ := h
  refine ⟨G, ω, c, R, ?_⟩
  simp only [den, Den.of] at q
  refine q.bind fun ds c1 ω1 H1 xs _ s1 R1 q1 p1 => ?_
  cases ew : prim p ds with
  | none => rw [ew] at p1; exact p1.elim
  | some w =>
    rw [ew] at p1
    exact ⟨σ, ds, w, G, ω1, c1, R1, q1, ew, p1⟩
/-- no star -/
noncomputable def notStar : Expr → Bool
  | .Starred _ _ => false
  | _ => true
theorem star_of {e : Expr} {es : List Expr} {env : Env} (h : notStar e = true) : starEach (e :: es) env = (false, eval e env) :: starEach es env := by
  cases e <;> first | rfl | cases h
theorem stars_of {env : Env} {pos : Pos} : ∀ {es : List Expr}, es.all notStar = true → (backTo pos (starEach es env)).any (·.1) = false
  | [], _ => rfl
  | e :: es, h => by
    rw [List.all_cons, Bool.and_eq_true] at h
    rw [star_of h.1]
    have ih := stars_of (env := env) (pos := pos) h.2
    unfold backTo at *
    rw [List.map_cons, List.any_cons, ih]
    rfl
theorem se_callB {x : Str} {id : String} {e : Expr} {es : List Expr} {ms : Exs} {p1 pos : Pos} (hK : X.K = C.K) (hc : CallR X (.builtin id) (rDn C p)) (hg : Gl X x) (hm : X.mg x = none) (hv : bootBuiltins x = some (.builtin id)) (ha : PA X (e :: es) (tPs C ms))
    (h1 : notStar e = true) (h2 : es.all notStar = true) (hn : x ≠ "__name__") (hd : (x == ("__debug__" : Str)) = false) : SE C X (.pr p ms) (.Call (.Name x p1) (e :: es) [] pos) :=
  .of hK rfl (fun _ => rfl) (fun _ => rfl) (pe_imp (pe_callB hc hg hm hv ha hn hd (star_of h1) (stars_of h2)) fun _ _ _ h => call_W (es := es) h)
theorem se_callT {x : Str} {id : String} {e : Expr} {es : List Expr} {ms : Exs} {p1 pos : Pos} (hK : X.K = C.K) (hc : CallR X (.type id) (rDn C p)) (hg : Gl X x) (hm : X.mg x = none) (hv : bootBuiltins x = some (.type id)) (ha : PA X (e :: es) (tPs C ms))
    (h1 : notStar e = true) (h2 : es.all notStar = true) (hn : x ≠ "__name__") (hd : (x == ("__debug__" : Str)) = false) : SE C X (.pr p ms) (.Call (.Name x p1) (e :: es) [] pos) :=
  .of hK rfl (fun _ => rfl) (fun _ => rfl) (pe_imp (pe_callTy hc hg hm hv ha hn hd (star_of h1) (stars_of h2)) fun _ _ _ h => call_W (es := es) h)
theorem crD_len (hK : X.K = C.K) : CallR X (.builtin "len") (rDn C .len) := by
  intro pins s σ H xs us Q I r ⟨σ', ds, w, G, ω, c, R, q, ew, k⟩
  cases q with
  | nil => cases ew
  | cons q qs =>
    cases qs with
    | cons _ _ => rename_i d _ _ _ _ _ _; cases d <;> cases ew
    | nil =>
      rename_i x d
      cases d with
      | list l =>
        cases vI_eq ew
        obtain ⟨a, vs, rfl, t1, r1⟩ := q.list
        refine call_len_seq pins s σ H _ us Q I r ⟨a, vs, rfl, .inl (.inl t1), ?_⟩
        rw [dps_len r1]
        exact ret_val R (.int _) k
      | tuple l =>
        cases vI_eq ew
        obtain ⟨a, vs, rfl, t1, r1⟩ := q.tuple
        refine call_len_seq pins s σ H _ us Q I r ⟨a, vs, rfl, .inr (hK ▸ t1), ?_⟩
        rw [dps_len r1]
        exact ret_val R (.int _) k
      | str z =>
        simp only [prim] at ew
        split at ew
        · rename_i hz
          cases vI_eq ew
          cases q.str
          exact call_len pins s σ H _ us Q I r ⟨.str z, z.length, rfl, ⟨by rw [← big_line]; exact hz, rfl⟩, ret_val R (.int _) k⟩
        · cases ew
      | _ => cases ew
theorem crD_tupO (hK : X.K = C.K) : CallR X (.type "tuple") (rDn C .tupO) := by
  intro pins s σ H xs us Q I r ⟨σ', ds, w, G, ω, c, R, q, ew, k⟩
  cases q with
  | nil => cases ew
  | cons q qs =>
    cases qs with
    | cons _ _ => rename_i d _ _ _ _ _ _; cases d <;> cases ew
    | nil =>
      rename_i x d
      cases d with
      | list l =>
        cases ew
        obtain ⟨a, vs, rfl, t1, r1⟩ := q.list
        exact call_tuple_of pins s σ H _ us Q I r ⟨a, vs, rfl, .inl ⟨.inl t1, fun p hp => ret_tup R hp r1 k⟩⟩
      | tuple l =>
        cases ew
        obtain ⟨a, vs, rfl, t1, r1⟩ := q.tuple
        refine call_tuple_of pins s σ H _ us Q I r ⟨a, vs, rfl, .inr ⟨hK ▸ t1, ?_⟩⟩
        rcases q with q | ⟨_, _, _, z, _⟩
        · exact ret_val R q k
        · cases z
      | _ => cases ew
theorem crD_lstO (hK : X.K = C.K) : CallR X (.type "list") (rDn C .lstO) := by
  intro pins s σ H xs us Q I r ⟨σ', ds, w, G, ω, c, R, q, ew, k⟩
  cases q with
  | nil => cases ew
  | cons q qs =>
    cases qs with
    | cons _ _ => rename_i d _ _ _ _ _ _; cases d <;> cases ew
    | nil =>
      rename_i x d
      cases d with
      | list l =>
        cases ew
        obtain ⟨a, vs, rfl, t1, r1⟩ := q.list
        exact call_list_of pins s σ H _ us Q I r ⟨a, vs, rfl, .inl (.inl t1), fun p hp => ret_own R hp r1 k⟩
      | tuple l =>
        cases ew
        obtain ⟨a, vs, rfl, t1, r1⟩ := q.tuple
        exact call_list_of pins s σ H _ us Q I r ⟨a, vs, rfl, .inr (hK ▸ t1), fun p hp => ret_own R hp r1 k⟩
      | _ => cases ew
theorem dInts_ok {K : PySem.W.Frag} {H : Hp} : ∀ {vs : List V} {ds : List D} {ns : List Int}, DqAll K H vs ds → dInts ds = some ns → vs = ns.map V.int
  | _, _, _, .nil, e => by cases e; rfl
  | _, _, _, .cons (d := d) a b, e => by
    cases d with
    | int i =>
      simp only [dInts, Option.map_eq_some_iff] at e
      obtain ⟨r, e1, rfl⟩ := e
      cases a
      rw [List.map_cons, dInts_ok b e1]
    | _ => cases e
theorem crD_sum (hc : X.calm = true) : CallR X (.builtin "sum") (rDn C .sum) := by
  intro pins s σ H xs us Q I r ⟨σ', ds, w, G, ω, c, R, q, ew, k⟩
  cases q with
  | nil => cases ew
  | cons q qs =>
    cases qs with
    | cons _ _ => rename_i d _ _ _ _ _ _; cases d <;> cases ew
    | nil =>
      rename_i x d
      cases d with
      | list l =>
        simp only [prim, Option.map_eq_some_iff] at ew
        obtain ⟨ns, e1, rfl⟩ := ew
        obtain ⟨a, vs, rfl, t1, r1⟩ := q.list
        have e2 := dInts_ok r1 e1
        subst e2
        exact cr_sum hc pins s σ H _ us Q I r ⟨a, ns, rfl, .inl t1, ret_val R (.int _) k⟩
      | _ => cases ew
theorem foldMax : ∀ (r : List Int) (a : Int), let m := r.foldl (fun x y => if y > x then y else x) a; (m = a ∨ m ∈ r) ∧ a ≤ m ∧ ∀ y ∈ r, y ≤ m
  | [], a => ⟨.inl rfl, Int.le_refl _, fun _ h => nomatch h⟩
  | b :: r, a => by
    have h := foldMax r (if b > a then b else a)
    simp only [List.foldl_cons]
    generalize r.foldl (fun x y => if y > x then y else x) (if b > a then b else a) = m at h
    obtain ⟨h1, h2, h3⟩ := h
    refine ⟨?_, ?_, ?_⟩
    · rcases h1 with h1 | h1
      · split at h1
        · exact .inr (h1 ▸ List.mem_cons_self)
        · exact .inl h1
      · exact .inr (List.mem_cons_of_mem _ h1)
    · split at h2 <;> omega
    · intro y hy
      rcases List.mem_cons.mp hy with rfl | hy
      · split at h2 <;> omega
      · exact h3 y hy
theorem foldMin : ∀ (r : List Int) (a : Int), let m := r.foldl (fun x y => if y < x then y else x) a; (m = a ∨ m ∈ r) ∧ m ≤ a ∧ ∀ y ∈ r, m ≤ y
  | [], a => ⟨.inl rfl, Int.le_refl _, fun _ h => nomatch h⟩
  | b :: r, a => by
    have h := foldMin r (if b < a then b else a)
    simp only [List.foldl_cons]
    generalize r.foldl (fun x y => if y < x then y else x) (if b < a then b else a) = m at h
    obtain ⟨h1, h2, h3⟩ := h
    refine ⟨?_, ?_, ?_⟩
    · rcases h1 with h1 | h1
      · split at h1
        · exact .inr (h1 ▸ List.mem_cons_self)
        · exact .inl h1
      · exact .inr (List.mem_cons_of_mem _ h1)
    · split at h2 <;> omega
    · intro y hy
      rcases List.mem_cons.mp hy with rfl | hy
      · split at h2 <;> omega
      · exact h3 y hy
theorem maxI_ok {l : List Int} {m : Int} (h : maxI l = some m) : 0 < l.length ∧ m ∈ l ∧ ∀ y ∈ l, y ≤ m := by
  cases l with
  | nil => cases h
  | cons a r =>
    have f := foldMax r a
    simp only [maxI, Option.some.injEq] at h
    simp only [h] at f
    obtain ⟨h1, h2, h3⟩ := f
    refine ⟨by simp, ?_, fun y hy => ?_⟩
    · rcases h1 with rfl | h1
      · exact List.mem_cons_self
      · exact List.mem_cons_of_mem _ h1
    · rcases List.mem_cons.mp hy with rfl | hy
      · exact h2
      · exact h3 y hy
theorem minI_ok {l : List Int} {m : Int} (h : minI l = some m) : 0 < l.length ∧ m ∈ l ∧ ∀ y ∈ l, m ≤ y := by
  cases l with
  | nil => cases h
  | cons a r =>
    have f := foldMin r a
    simp only [minI, Option.some.injEq] at h
    simp only [h] at f
    obtain ⟨h1, h2, h3⟩ := f
    refine ⟨by simp, ?_, fun y hy => ?_⟩
    · rcases h1 with rfl | h1
      · exact List.mem_cons_self
      · exact List.mem_cons_of_mem _ h1
    · rcases List.mem_cons.mp hy with rfl | hy
      · exact h2
      · exact h3 y hy
theorem pmax3 {a b c : D} {r : List D} : prim .max (a :: b :: c :: r) = none := by cases a <;> cases b <;> rfl
theorem pmin3 {a b c : D} {r : List D} : prim .min (a :: b :: c :: r) = none := by cases a <;> cases b <;> rfl
theorem crD_max (hc : X.calm = true) : CallR X (.builtin "max") (rDn C .max) := by
  intro pins s σ H xs us Q I r ⟨σ', ds, w, G, ω, c, R, q, ew, k⟩
  cases q with
  | nil => cases ew
  | cons q qs =>
    cases qs with
    | cons q2 qs =>
      cases qs with
      | cons _ _ => rw [pmax3] at ew; cases ew
      | nil =>
        rename_i x d y d2
        cases d with
        | int i =>
          cases d2 with
          | int j =>
            cases vI_eq ew
            cases q.int; cases q2.int
            exact call_max2 hc pins s σ H _ us Q I r ⟨i, j, rfl, ret_val R (.int _) k⟩
          | _ => cases ew
        | _ => cases d2 <;> cases ew
    | nil =>
      rename_i x d
      cases d with
      | list l =>
        have ew : ((dInts l).bind maxI).bind vI = some w := ew
        simp only [Option.bind_eq_some_iff] at ew
        obtain ⟨m, ⟨ns, e1, em⟩, e3⟩ := ew
        cases vI_eq e3
        obtain ⟨a, vs, rfl, t1, r1⟩ := q.list
        have e2 := dInts_ok r1 e1
        subst e2
        obtain ⟨h1, h2, h3⟩ := maxI_ok em
        refine cr_max hc pins s σ H _ us Q I r ⟨a, ns, rfl, .inl t1, h1, fun m' m1 m2 => ?_⟩
        have : m' = m := Int.le_antisymm (h3 m' m1) (m2 m h2)
        subst this
        exact ret_val R (.int _) k
      | _ => cases ew
theorem crD_min (hc : X.calm = true) : CallR X (.builtin "min") (rDn C .min) := by
  intro pins s σ H xs us Q I r ⟨σ', ds, w, G, ω, c, R, q, ew, k⟩
  cases q with
  | nil => cases ew
  | cons q qs =>
    cases qs with
    | cons q2 qs =>
      cases qs with
      | cons _ _ => rw [pmin3] at ew; cases ew
      | nil =>
        rename_i x d y d2
        cases d with
        | int i =>
          cases d2 with
          | int j =>
            cases vI_eq ew
            cases q.int; cases q2.int
            exact call_min2 hc pins s σ H _ us Q I r ⟨i, j, rfl, ret_val R (.int _) k⟩
          | _ => cases ew
        | _ => cases d2 <;> cases ew
    | nil =>
      rename_i x d
      cases d with
      | list l =>
        have ew : ((dInts l).bind minI).bind vI = some w := ew
        simp only [Option.bind_eq_some_iff] at ew
        obtain ⟨m, ⟨ns, e1, em⟩, e3⟩ := ew
        cases vI_eq e3
        obtain ⟨a, vs, rfl, t1, r1⟩ := q.list
        have e2 := dInts_ok r1 e1
        subst e2
        obtain ⟨h1, h2, h3⟩ := minI_ok em
        refine cr_min hc pins s σ H _ us Q I r ⟨a, ns, rfl, .inl t1, h1, fun m' m1 m2 => ?_⟩
        have : m' = m := Int.le_antisymm (m2 m h2) (h3 m' m1)
        subst this
        exact ret_val R (.int _) k
      | _ => cases ew
theorem idxI_ok {k : Int} : ∀ {l : List Int} {j : Nat}, idxI k l = some j → l[j]? = some k ∧ ∀ m, m < j → ∀ z, l[m]? = some z → z ≠ k
  | [], _, h => by cases h
  | a :: r, j, h => by
    simp only [idxI] at h
    split at h
    · rename_i e
      cases h
      exact ⟨by simp [e], fun m hm => by omega⟩
    · rename_i e
      simp only [Option.map_eq_some_iff] at h
      obtain ⟨j', h1, rfl⟩ := h
      obtain ⟨h2, h3⟩ := idxI_ok h1
      refine ⟨by simpa using h2, fun m hm z hz => ?_⟩
      cases m with
      | zero => simp at hz; rw [← hz]; exact e
      | succ m => exact h3 m (by omega) z (by simpa using hz)
theorem flat_ints (ns : List Int) : (ns.map V.int).all flatV = true := by
  rw [List.all_eq_true]
  intro v hv
  obtain ⟨i, _, rfl⟩ := List.mem_map.mp hv
  rfl
/-- x.index(e), of ints -/
theorem se_idx {x : Str} {e : Expr} {p1 apos cpos : Pos} {ma mb : Ex} (hK : X.K = C.K) (ha : SE C X ma (.Name x p1)) (hb : SE C X mb e) (hm : ∀ c x c', peekR mb c ((den C.k mb).v c) ≠ Rs.ex x c') (hs : notStar e = true) (hl : (apos.endLine == cpos.line) = true) :
    SE C X (.pr .idx (.cons ma (.cons mb .nil))) (.Call (.Attribute (.Name x p1) "index" apos) [e] [] cpos) := by
  have pe := pe_bm (cpos := cpos) PySem.F.plainAttrs_list PySem.F.slot_list_index PySem.F.type_list_index mt_index ha.p (pa_cons hb.p pa_nil (star_of hs)) rfl (by rw [star_of hs]; rfl) hl (star_of hs) rfl
  refine .of hK rfl (fun _ => rfl) (fun _ => rfl) (pe_imp pe fun σ H Q h => ?_)
  obtain ⟨G, ω, c, R, q⟩ := h
  refine ⟨G, ω, c, R, ?_⟩
  simp only [den, Den.of, denPs, Rs.bind_assoc, Rs.bind_ok] at q
  refine q.bind fun d c1 ω1 H1 x _ s1 R1 q1 p1 => ?_
  have no : (∀ d2, prim .idx [d, d2] = none) → False := fun z => by
    cases e : peekR mb c1 ((den C.k mb).v c1) with
    | no => rw [e] at p1; exact p1.elim
    | ex x c' => exact hm _ _ _ e
    | ok d2 c2 =>
      rw [e] at p1
      simp only [Rs.bind_ok, z d2] at p1
      exact p1.elim
  cases d with
  | list l =>
    obtain ⟨a, vs, rfl, t1, r1⟩ := q1.list
    refine ⟨.inl ⟨rfl, vs, .inl t1⟩, G, ω1, c1, R1, p1.bind fun d2 c2 ω2 H2 y _ s2 R2 q2 p2 => ?_⟩
    obtain ⟨a', vs', e, t2, r2⟩ := (RP.step q1 s2).list
    cases e
    cases ew : prim .idx [.list l, d2] with
    | none => rw [ew] at p2; exact p2.elim
    | some w =>
      rw [ew] at p2
      cases d2 with
      | int k =>
        have ew : ((dInts l).bind (idxI k)).bind (fun j => vI (j : Nat)) = some w := ew
        simp only [Option.bind_eq_some_iff] at ew
        obtain ⟨j, ⟨ns, e1, ej⟩, e3⟩ := ew
        cases vI_eq e3
        have e2 := dInts_ok r2 e1
        subst e2
        obtain ⟨h1, h2⟩ := idxI_ok ej
        cases q2.int
        refine ⟨a, _, .int k, j, .int k, rfl, rfl, .inl t2, rfl, flat_ints ns, by rw [List.getElem?_map, h1]; rfl, by simp [eqV], fun m z hm hz => ?_, ret_val R2 (.int _) p2⟩
        rw [List.getElem?_map] at hz
        cases e : ns[m]? with
        | none => rw [e] at hz; cases hz
        | some z' =>
          rw [e] at hz
          cases hz
          have := h2 m hm z' e
          simp [eqV, this]
      | _ => cases ew
  | none => exact (no fun d2 => by cases d2 <;> rfl).elim
  | bool _ => exact (no fun d2 => by cases d2 <;> rfl).elim
  | int _ => exact (no fun d2 => by cases d2 <;> rfl).elim
  | str _ => exact (no fun d2 => by cases d2 <;> rfl).elim
  | tuple _ => exact (no fun d2 => by cases d2 <;> rfl).elim
  | dict _ => exact (no fun d2 => by cases d2 <;> rfl).elim
theorem crD_intO : CallR X (.type "int") (rDn C .intO) := by
  intro pins s σ H xs us Q I r ⟨σ', ds, w, G, ω, c, R, q, ew, k⟩
  cases q with
  | nil => cases ew
  | cons q qs =>
    cases qs with
    | cons _ _ => rename_i d _ _ _ _ _ _; cases d <;> cases ew
    | nil =>
      rename_i x d
      cases d with
      | int i => cases vI_eq ew; cases q.int; exact call_int1 pins s σ H _ us Q I r (.inl ⟨i, rfl, ret_val R (.int _) k⟩)
      | bool i => cases vI_eq ew; cases q.bool; exact call_int1 pins s σ H _ us Q I r (.inr ⟨i, rfl, ret_val R (.int _) k⟩)
      | _ => cases ew
/-! ### isinstance -/
noncomputable def tyName : Nat → String
  | 0 => "int"
  | 1 => "bool"
  | 2 => "str"
  | 3 => "tuple"
  | _ => "list"
noncomputable def kindOfD : D → String
  | .none => "NoneType"
  | .bool _ => "bool"
  | .int _ => "int"
  | .str _ => "str"
  | .list _ => "list"
  | .tuple _ => "tuple"
  | .dict _ => "dict"
theorem isi_kit (t : Nat) (ht : t < 5) (d : D) (hd : ∀ l, d ≠ .dict l) : kitB (kindOfD d) (tyName t) = some (isi t d) := by
  have tab : ∀ t, t < 5 → kitB "NoneType" (tyName t) = some false ∧ kitB "bool" (tyName t) = some (decide (t = 0 ∨ t = 1)) ∧ kitB "int" (tyName t) = some (decide (t = 0)) ∧ kitB "str" (tyName t) = some (decide (t = 2)) ∧
      kitB "list" (tyName t) = some (decide (t = 4)) ∧ kitB "tuple" (tyName t) = some (decide (t = 3)) := by decide +kernel
  obtain ⟨h1, h2, h3, h4, h5, h6⟩ := tab t ht
  have five : t = 0 ∨ t = 1 ∨ t = 2 ∨ t = 3 ∨ t = 4 := by omega
  cases d with
  | none => rw [show kindOfD .none = "NoneType" from rfl, h1]; rcases five with rfl | rfl | rfl | rfl | rfl <;> rfl
  | bool _ => rw [show kindOfD (.bool _) = "bool" from rfl, h2]; rcases five with rfl | rfl | rfl | rfl | rfl <;> rfl
  | int _ => rw [show kindOfD (.int _) = "int" from rfl, h3]; rcases five with rfl | rfl | rfl | rfl | rfl <;> rfl
  | str _ => rw [show kindOfD (.str _) = "str" from rfl, h4]; rcases five with rfl | rfl | rfl | rfl | rfl <;> rfl
  | list _ => rw [show kindOfD (.list _) = "list" from rfl, h5]; rcases five with rfl | rfl | rfl | rfl | rfl <;> rfl
  | tuple _ => rw [show kindOfD (.tuple _) = "tuple" from rfl, h6]; rcases five with rfl | rfl | rfl | rfl | rfl <;> rfl
  | dict l => exact absurd rfl (hd l)
theorem ty_of {K : PySem.W.Frag} {ω : Om} {H : Hp} {v : V} {d : D} (h : RP K ω H v d) : (∀ l, d ≠ .dict l) ∧ TyX K H v (.type (kindOfD d)) := by
  cases d with
  | none =>
    rcases h with h | ⟨_, _, _, z, _⟩
    · cases h; exact ⟨(fun _ z => by cases z), .base .non⟩
    · cases z
  | bool b => cases h.bool; exact ⟨(fun _ z => by cases z), .base (.bl b)⟩
  | int b => cases h.int; exact ⟨(fun _ z => by cases z), .base (.int b)⟩
  | str b => cases h.str; exact ⟨(fun _ z => by cases z), .base (.str b)⟩
  | list l =>
    obtain ⟨a, vs, rfl, t1, r1⟩ := h.list
    refine ⟨(fun _ z => by cases z), ?_⟩
    rcases t1 with t1 | ⟨o, t1⟩
    · exact .base (.lst t1)
    · exact .base (.frz t1)
  | tuple l =>
    obtain ⟨a, vs, rfl, t1, r1⟩ := h.tuple
    refine ⟨(fun _ z => by cases z), ?_⟩
    rcases t1 with (t1 | ⟨o, t1⟩) | ⟨o, its, n, hk, hc, _⟩
    · exact .base (.tup t1)
    · exact .fTuple t1
    · exact .kTuple hk hc
  | dict l =>
    rcases h with h | ⟨_, _, _, z, _⟩
    · cases h
    · cases z
theorem se_isi {t : Nat} {tp : Expr} {p1 pos : Pos} (hK : X.K = C.K) (ht : t < 5) (hg : Gl X "isinstance") (hm : X.mg "isinstance" = none) (ha : SE C X ma a) (htp : PE X tp (tC (.ty (tyName t)))) (h1 : notStar a = true) (h2 : notStar tp = true) :
    SE C X (.pr (.isi t) (.cons ma .nil)) (.Call (.Name "isinstance" p1) [a, tp] [] pos) := by
  have pa : PA X [a, tp] (tCons (tP C ma) (tCons (tC (.ty (tyName t))) tNil)) := pa_cons ha.p (pa_cons htp pa_nil (star_of h2)) (star_of h1)
  refine .of hK rfl (fun _ => rfl) (fun _ => rfl) (pe_imp (pe_callB call_isi hg hm (by decide +kernel) pa (by decide) (by decide) (star_of h1) (stars_of (by simp [h2]))) fun σ H Q h => tP_mono (one_W h) fun x H1 ⟨d, w, G, ω, c, R, q, ew, k⟩ => ?_)
  cases vB_eq ew
  obtain ⟨nd, ty⟩ := ty_of q
  exact ⟨x, .ty (tyName t), .type (kindOfD d), .type (tyName t), isi t d, rfl, .ty _, hK ▸ ty, kit_ty (isi_kit t ht d nd), ret_val R (.bl _) k⟩
end
end Rp

/-! Rp, part 7: chains of comparisons; calls of defs. -/
namespace Rp
open PySem PySem.Spec PyProof.Rows L2

/-- the links of a chain: operators and operands with their mini forms -/
inductive CH (C : C0) (X : Cx) : List P → List CmpOp → Exs → List Expr → Prop
  | one {p : P} {op : CmpOp} {m : Ex} {e : Expr} : OpR X (compareOp op) (rD2 C p) → p.isB = true → SE C X m e → CH C X [p] [op] (.cons m .nil) [e]
  | more {p p2 : P} {ps : List P} {op op2 : CmpOp} {ops : List CmpOp} {m m2 : Ex} {ms : Exs} {e e2 : Expr} {es : List Expr} : OpR X (compareOp op) (rD2 C p) → p.isB = true → SE C X m e →
      CH C X (p2 :: ps) (op2 :: ops) (.cons m2 ms) (e2 :: es) → CH C X (p :: p2 :: ps) (op :: op2 :: ops) (.cons m (.cons m2 ms)) (e :: e2 :: es)
section
variable {C : C0} {X : Cx}
theorem chain_V {ps : List P} {ops : List CmpOp} {ms : Exs} {es : List Expr} (h : CH C X ps ops ms es) : ∀ {pos : Pos} {pins : List (Addr × Obj)} {s : Shared} {σ : L2.St} {H : Hp} {Q : VK} {x : V} {v : Value} {d : D} {G : Gh} {ω : Om} {c : Cfg},
    Inv X pins σ H s → RelV x v → Rel C.n C.K G ω σ H c → RP C.K ω H x d → Post C G σ ω H (denC C.k ms ps d c) (rW C.K) Q → wpAny (model X.prog X.w) X.A (compareChain pos v ops (evalEach es X.env)) (EP X pins σ Q) X.xe s := by
  induction h with
  | @one p op m e ho hb se =>
    intro pos pins s σ H Q x v d G ω c I rx R q p0
    show wpAny _ _ (compareChain pos v [op] [eval e X.env]) _ _ _
    simp only [denC, List.isEmpty_nil] at p0
    refine chain_last (thn (se.p.run pins s σ H (fun y H1 => rD2 C p x y H1 Q) I ⟨G, ω, c, R, p0.bind fun b c1 ω1 H1 y _ s1 R1 q1 p1 => ?_⟩) fun u s1 ⟨y, H1, I1, r1, q1⟩ => ho pins s1 σ H1 x y v u Q I1 rx r1 q1)
    cases ew : prim p [d, b] with
    | none => rw [ew] at p1; exact p1.elim
    | some w =>
      obtain ⟨t, rfl⟩ := prim_bl hb ew
      rw [ew] at p1
      exact ⟨σ, d, b, _, G, ω1, c1, R1, q.step s1, q1, ew, p1⟩
  | @more p p2 ps op op2 ops m m2 ms e e2 es ho hb se ch ih =>
    intro pos pins s σ H Q x v d G ω c I rx R q p0
    show wpAny _ _ (compareChain pos v (op :: op2 :: ops) (eval e X.env :: eval e2 X.env :: evalEach es X.env)) _ _ _
    rw [denC] at p0
    refine chain_link (thn (se.p.run pins s σ H (fun y H1 => ∃ b t G ω c, Rel C.n C.K G ω σ H1 c ∧ RP C.K ω H1 x d ∧ RP C.K ω H1 y b ∧ prim p [d, b] = some (.val (.bool t)) ∧ Post C G σ ω H1 (if t = true then denC C.k (.cons m2 ms) (p2 :: ps) b c else .ok (.val (.bool false)) c) (rW C.K) Q) I ⟨G, ω, c, R, p0.bind fun b c1 ω1 H1 y _ s1 R1 q1 p1 => ?_⟩) fun u s1 ⟨y, H1, I1, r1, b, t, G, ω, c, R1, qx, qy, ew, p1⟩ => ?_)
    · dsimp only at p1
      cases ew : prim p [d, b] with
      | none => rw [ew] at p1; exact p1.elim
      | some w =>
        obtain ⟨t, rfl⟩ := prim_bl hb ew
        rw [ew] at p1
        exact ⟨b, t, G, ω1, c1, R1, q.step s1, q1, ew, p1⟩
    · refine thn (ho pins s1 σ H1 x y v u (fun z H2 => z = .bl t ∧ ∃ ω2, Stp C.l ω H1 ω2 H2 ∧ Rel C.n C.K G ω2 σ H2 c) I1 rx r1 ⟨σ, d, b, _, G, ω, c, R1, qx, qy, ew, fun ω' H' z s' R' hz => ?_⟩) fun z s2 ⟨z', H2, I2, rz, ez, ω2, st2, R2⟩ => ?_
      · cases hz
        exact ⟨rfl, ω', s', R'⟩
      · subst ez
        cases rz
        refine wpAny_truthy_bool ?_
        have p2 := Post.step p1 st2
        cases t with
        | true => exact ih I2 r1 R2 (qy.step st2) p2
        | false => exact ⟨.bl false, H2, I2, rfl, ret_val R2 (.bl _) p2⟩
theorem chain_T {ps : List P} {ops : List CmpOp} {ms : Exs} {es : List Expr} (h : CH C X ps ops ms es) : ∀ {pos : Pos} {pins : List (Addr × Obj)} {s : Shared} {σ : L2.St} {H : Hp} {Q : Bool → Hp → Prop} {x : V} {v : Value} {d : D} {G : Gh} {ω : Om} {c : Cfg},
    Inv X pins σ H s → RelV x v → Rel C.n C.K G ω σ H c → RP C.K ω H x d → Post C G σ ω H (truthR (frzR (denC C.k ms ps d c))) rT Q → wpAny (model X.prog X.w) X.A (testChain pos v ops (evalEach es X.env)) (TP X pins σ Q) X.xe s := by
  induction h with
  | @one p op m e ho hb se =>
    intro pos pins s σ H Q x v d G ω c I rx R q p0
    show wpAny _ _ (testChain pos v [op] [eval e X.env]) _ _ _
    simp only [denC, List.isEmpty_nil, truthR, frzR, Rs.bind_assoc] at p0
    refine test_last (thn (se.p.run pins s σ H (fun y H1 => rD2 C p x y H1 fun z H2 => ∃ t, z = .bl t ∧ Q t H2) I ⟨G, ω, c, R, p0.bind fun b c1 ω1 H1 y _ s1 R1 q1 p1 => ?_⟩) fun u s1 ⟨y, H1, I1, r1, q1⟩ => thn (ho pins s1 σ H1 x y v u _ I1 rx r1 q1) fun z s2 ⟨z', H2, I2, rz, t, ez, qq⟩ => ?_)
    · cases ew : prim p [d, b] with
      | none => rw [ew] at p1; exact p1.elim
      | some w =>
        obtain ⟨t, rfl⟩ := prim_bl hb ew
        rw [ew] at p1
        refine ⟨σ, d, b, _, G, ω1, c1, R1, q.step s1, q1, ew, fun ω' H' z s' R' hz => ?_⟩
        cases hz
        exact ⟨t, rfl, p1 ω' H' t s' R' rfl⟩
    · subst ez
      cases rz
      exact wpAny_truthy_bool ⟨H2, I2, qq⟩
  | @more p p2 ps op op2 ops m m2 ms e e2 es ho hb se ch ih =>
    intro pos pins s σ H Q x v d G ω c I rx R q p0
    show wpAny _ _ (testChain pos v (op :: op2 :: ops) (eval e X.env :: eval e2 X.env :: evalEach es X.env)) _ _ _
    rw [denC] at p0
    simp only [truthR, frzR, Rs.bind_assoc] at p0
    refine test_link (thn (se.p.run pins s σ H (fun y H1 => ∃ b t G ω c, Rel C.n C.K G ω σ H1 c ∧ RP C.K ω H1 x d ∧ RP C.K ω H1 y b ∧ prim p [d, b] = some (.val (.bool t)) ∧ Post C G σ ω H1 (truthR (frzR (if t = true then denC C.k (.cons m2 ms) (p2 :: ps) b c else .ok (.val (.bool false)) c))) rT Q) I ⟨G, ω, c, R, p0.bind fun b c1 ω1 H1 y _ s1 R1 q1 p1 => ?_⟩) fun u s1 ⟨y, H1, I1, r1, b, t, G, ω, c, R1, qx, qy, ew, p1⟩ => ?_)
    · try dsimp only at p1
      cases ew : prim p [d, b] with
      | none => rw [ew] at p1; exact p1.elim
      | some w =>
        obtain ⟨t, rfl⟩ := prim_bl hb ew
        rw [ew] at p1
        refine ⟨b, t, G, ω1, c1, R1, q.step s1, q1, ew, ?_⟩
        simp only [truthR, frzR, Rs.bind_assoc]
        exact p1
    · refine thn (ho pins s1 σ H1 x y v u (fun z H2 => z = .bl t ∧ ∃ ω2, Stp C.l ω H1 ω2 H2 ∧ Rel C.n C.K G ω2 σ H2 c) I1 rx r1 ⟨σ, d, b, _, G, ω, c, R1, qx, qy, ew, fun ω' H' z s' R' hz => ?_⟩) fun z s2 ⟨z', H2, I2, rz, ez, ω2, st2, R2⟩ => ?_
      · cases hz
        exact ⟨rfl, ω', s', R'⟩
      · subst ez
        cases rz
        refine wpAny_truthy_bool ?_
        have p2 := Post.step p1 st2
        cases t with
        | true => exact ih I2 r1 R2 (qy.step st2) p2
        | false => exact ⟨H2, I2, p2 ω2 H2 false (Stp.refl R2.dom) R2 rfl⟩
theorem se_chn {a e e2 : Expr} {ma : Ex} {ps : List P} {op op2 : CmpOp} {ops : List CmpOp} {ms : Exs} {es : List Expr} {pos : Pos} (ha : SE C X ma a) (h : CH C X ps (op :: op2 :: ops) ms (e :: e2 :: es)) (hm : lastMarks (op :: op2 :: ops) (e :: e2 :: es) = false) :
    SE C X (.chn ps ma ms) (.Compare a (op :: op2 :: ops) (e :: e2 :: es) pos) := by
  refine .mk' rfl ⟨fun pins s σ H Q I ⟨G, ω, c, R, p⟩ => ?_⟩ ⟨fun pins s σ H Q I ⟨G, ω, c, R, p⟩ => ?_⟩
  · simp only [den, Den.of] at p
    refine Compare_chain (thn (ha.p.run pins s σ H (fun x H1 => ∃ d G ω c, Rel C.n C.K G ω σ H1 c ∧ RP C.K ω H1 x d ∧ Post C G σ ω H1 (denC C.k ms ps d c) (rW C.K) Q) I ⟨G, ω, c, R, p.bind fun d c1 ω1 H1 x _ s1 R1 q1 p1 => ⟨d, G, ω1, c1, R1, q1, p1⟩⟩) fun v s1 ⟨x, H1, I1, r1, d, G, ω, c, R1, q1, p1⟩ => ?_) hm
    exact chain_V h I1 r1 R1 q1 p1
  · simp only [den, Den.of, truthR, frzR, Rs.bind_assoc] at p
    refine isTrue_chain (thn (ha.p.run pins s σ H (fun x H1 => ∃ d G ω c, Rel C.n C.K G ω σ H1 c ∧ RP C.K ω H1 x d ∧ Post C G σ ω H1 (truthR (frzR (denC C.k ms ps d c))) rT Q) I ⟨G, ω, c, R, p.bind fun d c1 ω1 H1 x _ s1 R1 q1 p1 => ⟨d, G, ω1, c1, R1, q1, ?_⟩⟩) fun v s1 ⟨x, H1, I1, r1, d, G, ω, c, R1, q1, p1⟩ => ?_) hm
    · simp only [truthR, frzR, Rs.bind_assoc]
      exact p1
    · exact chain_T h I1 r1 R1 q1 p1
end

/-! ### calls -/
/-- what a def at level n promises -/
noncomputable def PostF (T : Pr) (K : PySem.W.Frag) (n : Nat) (ω : Om) (H : Hp) (r : Option (Sum W Exn)) (Q : VK) (E : XK) : Prop := match r with
  | some (.inl w) => ∀ ω' H' v, Stp n ω H ω' H' → OKeep none ω H H' → RW K H ω' H' v w → Q v H'
  | some (.inr x) => ∀ ω' H' d, Stp n ω H ω' H' → OKeep none ω H H' → Pay T K x d ω' H' → E (T.cls x.c) d H'
  | none => False
noncomputable def spF (T : Pr) (K : PySem.W.Frag) (n : Nat) (f : Nat) (np : Nat) : Sp := fun vs H Q E => vs.length = np ∧ ∃ ω ds, Dom ω H ∧ DqAll K (hide H ω) vs ds ∧ PostF T K n ω H ((callN T.tab n).f f ds) Q E
/-- a def that may be called -/
structure CallOk (X : Cx) (T : Pr) (n : Nat) (f : Nat) (fn : Fn) : Prop where
  ex : ∃ (fa : Addr) (fd : FuncData) (ps : List Str), ps.length = fn.np ∧ FnOk X.prog X.w X.K X.mg X.base (L2.CX X.prog X.w) (n + 4) fa fd ps (spF T X.K n f ps.length) ∧ X.mg (T.name f) = some (.ref fa) ∧ PySem.W.keepIn X.K (.ref fa) = true ∧ Binds X.K fd ps []
section
variable {C : C0} {X : Cx}
theorem call_args {fn : Fn} {k : Call} {ds : List D} {r : Sum W Exn} (h : runF k fn ds = some r) : ds.length = fn.np := by
  unfold runF at h
  split at h
  · assumption
  · cases h
theorem callN_args {T : Pr} {n f : Nat} {fn : Fn} (ht : T.tab f = some fn) {ds : List D} {r : Sum W Exn} (h : (callN T.tab n).f f ds = some r) : ds.length = fn.np := by
  cases n with
  | zero => cases h
  | succ n =>
    simp only [callN, ht] at h
    exact call_args h
theorem se_call {f : Nat} {fn : Fn} {x : Str} {e : Expr} {es : List Expr} {ms : Exs} {p1 pos : Pos} (hK : X.K = C.K) (ht : C.T.tab f = some fn) (F : CallOk X C.T C.m f fn) (hx : C.T.name f = x)
    (hr : Room (C.m + 4) X.A) (hg : Gl X x) (pass : ∀ σ, PassesAt (L2.CX X.prog X.w) X σ (WE C.W σ)) (ha : PA X (e :: es) (tVs C ms)) (h1 : notStar e = true) (h2 : es.all notStar = true) (hd : (x == ("__debug__" : Str)) = false) : SE C X (.call f ms) (.Call (.Name x p1) (e :: es) [] pos) := by
  obtain ⟨fa, fd, ps, hnp, G, hm, hk, hb⟩ := F.ex
  rw [hx] at hm
  refine .of hK rfl (fun _ => rfl) (fun _ => rfl) (pe_imp (pe_callS G hr hg hm hk hb pass ha hd (star_of h1) (stars_of h2)) fun σ H Q ⟨G, ω, c, R, p⟩ => ⟨G, ω, c, R, ?_⟩)
  simp only [den, Den.of] at p
  refine p.bind fun ds c1 ω1 H1 vs _ s1 R1 q1 p1 => ?_
  cases er : C.k.f f ds with
  | none => rw [er] at p1; exact p1.elim
  | some r =>
    rw [er] at p1
    refine ⟨(dps_len q1).trans ((callN_args ht er).trans hnp.symm), ω1, ds, R1.dom, hK ▸ q1, ?_⟩
    rw [show (callN C.T.tab C.m).f f ds = some r from er]
    cases r with
    | inl w => exact fun ω' H' v s' k' q' => p1 ω' H' v (s'.mono (Nat.le_succ _)) (R1.step s' (Nat.lt_succ_self _) k') (hK ▸ q')
    | inr x => exact fun ω' H' d s' k' q' => p1 ω' H' d (s'.mono (Nat.le_succ _)) (R1.step s' (Nat.lt_succ_self _) k') (hK ▸ q')
end
end Rp

/-! Rp, part 8: what is walked; targets. -/
namespace Rp
open PySem PySem.Spec PyProof.Rows L2

/-- an iterator that yields these data, while what is frozen stays -/
structure WkD (K : PySem.W.Frag) (J : It) (ω : Om) (H : Hp) (items : List D) : Prop where
  go : ∀ i ω' H', Same (hide H ω) (hide H' ω') → i < items.length → J.go i H'
  stop : ∀ ω' H', Same (hide H ω) (hide H' ω') → J.stop items.length H'
  yld : ∀ i ω' H' x H'' d, Same (hide H ω) (hide H' ω') → Dom ω' H' → J.yld i H' x H'' → items[i]? = some d → (H'' = H' ∨ ∃ T o, H' T = none ∧ H'' = upd H' T o) ∧ Dq K (hide H'' ω') x d
noncomputable def rI (K : PySem.W.Frag) : Hp → Om → Hp → It → List D → Prop := fun _ ω H J items => WkD K J ω H items ∧ items.length ≤ sizeLine
instance {K : PySem.W.Frag} : RM (rI K) := ⟨fun _ _ _ _ _ _ _ h => h⟩
noncomputable abbrev tI (C : C0) (ik : ItK) (ms : Exs) : TI := tG C (fun c => itR ik (denVs C.k ms c)) (rI C.K)

section
variable {K : PySem.W.Frag} {ω : Om} {H : Hp}
theorem wk_list {a : Addr} {vs : List V} {ds : List D} (hl : Rd (hide H ω) a (.lst vs)) (r : DqAll K (hide H ω) vs ds) : WkD K (Itl K a) ω H ds := by
  have q : ∀ {ω' : Om} {H' : Hp}, Same (hide H ω) (hide H' ω') → SqL K H' a vs := fun s => .inl (rd_mono hide_same (rd_mono s hl))
  have W : Walk (Itl K a) vs.length (fun H => SqL K H a vs) (YAt vs) := walk_list
  have e := dps_len r
  refine ⟨fun i ω' H' s hi => W.goes i H' (by omega) (q s), fun ω' H' s => by rw [← e]; exact W.stops H' (q s), fun i ω' H' x H'' d s _ y hd => ?_⟩
  obtain ⟨e1, e2⟩ := W.yields i H' x H'' (by rw [e]; exact (List.getElem?_eq_some_iff.mp hd).1) (q s) y
  subst e1
  obtain ⟨d', h1, h2⟩ := dps_get r e2
  rw [hd] at h1; cases h1
  exact ⟨.inl rfl, dp_mono s _ _ h2⟩
theorem wk_tup {a : Addr} {vs : List V} {ds : List D} (hl : SqT K (hide H ω) a vs) (r : DqAll K (hide H ω) vs ds) : WkD K (Itt K a) ω H ds := by
  have q : ∀ {ω' : Om} {H' : Hp}, Same (hide H ω) (hide H' ω') → SqT K H' a vs := fun s => same_sqT hide_same (same_sqT s hl)
  have W : Walk (Itt K a) vs.length (fun H => SqT K H a vs) (YAt vs) := walk_tup
  have e := dps_len r
  refine ⟨fun i ω' H' s hi => W.goes i H' (by omega) (q s), fun ω' H' s => by rw [← e]; exact W.stops H' (q s), fun i ω' H' x H'' d s _ y hd => ?_⟩
  obtain ⟨e1, e2⟩ := W.yields i H' x H'' (by rw [e]; exact (List.getElem?_eq_some_iff.mp hd).1) (q s) y
  subst e1
  obtain ⟨d', h1, h2⟩ := dps_get r e2
  rw [hd] at h1; cases h1
  exact ⟨.inl rfl, dp_mono s _ _ h2⟩
theorem rngD_len (lo : Int) (n : Nat) : (rngD lo n).length = n := by unfold rngD; rw [List.length_map, List.length_range]
theorem rngD_get {lo : Int} {n i : Nat} {d : D} (h : (rngD lo n)[i]? = some d) : d = .int (lo + i) := by
  unfold rngD at h
  rw [List.getElem?_map] at h
  cases e : (List.range n)[i]? with
  | none => rw [e] at h; cases h
  | some j =>
    rw [e] at h
    have hj : j = i := by
      have := List.getElem?_eq_some_iff.mp e
      obtain ⟨h1, h2⟩ := this
      rw [List.getElem_range] at h2
      exact h2.symm
    cases h
    rw [hj]
theorem wk_rng {lo : Int} {n : Nat} : WkD K (Itr lo n) ω H (rngD lo n) := by
  have W : Walk (Itr lo n) n (fun _ => True) (YFn fun i => .int (lo + i)) := walk_range
  have e := rngD_len lo n
  refine ⟨fun i ω' H' s hi => W.goes i H' (by omega) trivial, fun ω' H' s => by rw [e]; exact W.stops H' trivial, fun i ω' H' x H'' d s _ y hd => ?_⟩
  obtain ⟨e1, e2⟩ := W.yields i H' x H'' (by rw [← e]; exact (List.getElem?_eq_some_iff.mp hd).1) trivial y
  subst e1 e2
  rw [rngD_get hd]
  exact ⟨.inl rfl, .int _⟩
theorem rngN_len (lo : Int) (n : Nat) : (rngN lo n).length = n := by unfold rngN; rw [List.length_map, List.length_range]
theorem rngN_get {lo : Int} {n i : Nat} {d : D} (h : (rngN lo n)[i]? = some d) : d = .int (lo + (i : Int) * (-1)) := by
  unfold rngN at h
  rw [List.getElem?_map] at h
  cases e : (List.range n)[i]? with
  | none => rw [e] at h; cases h
  | some j =>
    rw [e] at h
    have hj : j = i := by
      have := List.getElem?_eq_some_iff.mp e
      obtain ⟨h1, h2⟩ := this
      rw [List.getElem_range] at h2
      exact h2.symm
    cases h
    rw [hj]
theorem wk_rngN {lo : Int} {n : Nat} : WkD K (Itc lo (-1) n) ω H (rngN lo n) := by
  have W : Walk (Itc lo (-1) n) n (fun _ => True) (YFn fun i => .int (lo + (i : Nat) * (-1))) := walk_rangeC
  have e := rngN_len lo n
  refine ⟨fun i ω' H' s hi => W.goes i H' (by omega) trivial, fun ω' H' s => by rw [e]; exact W.stops H' trivial, fun i ω' H' x H'' d s _ y hd => ?_⟩
  obtain ⟨e1, e2⟩ := W.yields i H' x H'' (by rw [← e]; exact (List.getElem?_eq_some_iff.mp hd).1) trivial y
  subst e1 e2
  rw [rngN_get hd]
  exact ⟨.inl rfl, .int _⟩
theorem enuD_len : ∀ (j : Nat) (l : List D), (enuD j l).length = l.length
  | _, [] => rfl
  | j, _ :: r => by unfold enuD; rw [List.length_cons, List.length_cons, enuD_len]
theorem enuD_get : ∀ {j : Nat} {l : List D} {i : Nat} {d : D}, (enuD j l)[i]? = some d → ∃ x, l[i]? = some x ∧ d = .tuple [.int ((j + i : Nat) : Int), x]
  | _, [], _, _, h => by simp [enuD] at h
  | j, x :: r, 0, d, h => by simp [enuD] at h; exact ⟨x, rfl, h.symm⟩
  | j, x :: r, i + 1, d, h => by
    simp only [enuD, List.getElem?_cons_succ] at h
    obtain ⟨y, h1, h2⟩ := enuD_get h
    refine ⟨y, by simpa using h1, ?_⟩
    rw [h2, show j + 1 + i = j + (i + 1) by omega]
theorem wk_enu {a : Addr} {vs : List V} {ds : List D} (hl : Rd (hide H ω) a (.lst vs)) (r : DqAll K (hide H ω) vs ds) : WkD K (Ite K a) ω H (enuD 0 ds) := by
  have q : ∀ {ω' : Om} {H' : Hp}, Same (hide H ω) (hide H' ω') → SqL K H' a vs := fun s => .inl (rd_mono hide_same (rd_mono s hl))
  have W : Walk (Ite K a) vs.length (fun H => SqL K H a vs) (YPair (fun i => some (.int (i : Nat))) (fun i => vs[i]?)) := walk_enum
  have e := dps_len r
  have e0 := enuD_len 0 ds
  refine ⟨fun i ω' H' s hi => W.goes i H' (by omega) (q s), fun ω' H' s => by rw [e0, ← e]; exact W.stops H' (q s), fun i ω' H' x H'' d s dm y hd => ?_⟩
  obtain ⟨T, x1, x2, rfl, hT, rfl, h1, h2⟩ := W.yields i H' x H'' (by rw [e, ← e0]; exact (List.getElem?_eq_some_iff.mp hd).1) (q s) y
  cases h1
  obtain ⟨d2, g1, rfl⟩ := enuD_get hd
  obtain ⟨d', g2, g3⟩ := dps_get r h2
  rw [g1] at g2; cases g2
  refine ⟨.inr ⟨T, _, hT, rfl⟩, .tup (SqT.of (by rw [hide_free (dm.free hT), upd_same])) (.cons ?_ (.cons (dp_mono (hide_new dm hT) _ _ (dp_mono s _ _ g3)) .nil))⟩
  rw [Nat.zero_add]
  exact .int _
end

section
variable {C : C0} {X : Cx} {tg : Expr}
theorem fp_one {pins : List (Addr × Obj)} {σ : L2.St} {H : Hp} {s : Shared} (I : Inv X pins σ H s) : ∀ b ∈ [s.heap.objs.size], FpOk X pins H b := fun b hb => by
  rw [List.mem_singleton] at hb
  subst hb
  exact I.fpOk (Nat.le_refl _) I.fresh
/-- iter of a list, of a tuple -/
theorem iter_l {pins : List (Addr × Obj)} {σ : L2.St} {H : Hp} {s : Shared} {a : Addr} {vs : List V} {R : It → Hp → Prop} (I : Inv X pins σ H s) (hl : SqL X.K H a vs) (q : R (Itl X.K a) H) : wpAny (model X.prog X.w) X.A (pyIter (.ref a)) (PIE X pins σ tg R) X.xe s := by
  obtain ⟨its, _, pl, _⟩ := I.list hl
  exact wpAny_pyIter_list pl.isList ⟨_, [s.heap.objs.size], fun i h => h.IsListIter s.heap.objs.size a i, Itl X.K a, H, rfl, I.kept (t' := s.toks) (fun _ _ e => Heap.get?_push_of_some _ e), turn_list a _, ⟨_, Heap.get?_push_size _ rfl, rfl, rfl⟩, fp_one I, q⟩
theorem iter_t {pins : List (Addr × Obj)} {σ : L2.St} {H : Hp} {s : Shared} {a : Addr} {vs : List V} {R : It → Hp → Prop} (I : Inv X pins σ H s) (hl : SqT X.K H a vs) (q : R (Itt X.K a) H) : wpAny (model X.prog X.w) X.A (pyIter (.ref a)) (PIE X pins σ tg R) X.xe s := by
  obtain ⟨its, _, pl, _⟩ := I.tuple hl
  refine wpAny_pyIter_tuple (show s.heap.IsTuple a its.toArray from pl) ⟨_, [s.heap.objs.size], _, Itt X.K a, H, rfl, I.kept (t' := s.toks) (fun _ _ e => Heap.get?_push_of_some _ e), turn_tuple a _, ⟨_, Heap.get?_push_size _ rfl, rfl, rfl⟩, fp_one I, q⟩
/-- a list or a tuple -/
theorem pi_seq {m : Ex} {e : Expr} (hK : X.K = C.K) (h : SE C X m e) : PI X tg e (tI C .seq (.cons m .nil)) := by
  refine ⟨fun pins s σ H R I ⟨G, ω, c, Rl, p⟩ => ?_⟩
  simp only [itR, denVs, Rs.bind_assoc, Rs.bind_ok] at p
  refine thn (h.v.run pins s σ H (fun x H1 => ∃ d items ω, RV C.K ω H1 x d ∧ itOf .seq [d] = some items ∧ ∀ J, rI C.K H1 ω H1 J items → R J H1) I ⟨G, ω, c, Rl, p.bind fun d c1 ω1 H1 x _ s1 R1 q1 p1 => ?_⟩) fun v s1 ⟨x, H1, I1, r1, d, items, ω1, q1, ei, k⟩ => ?_
  · cases ei : itOf .seq [d] with
    | none => rw [ei] at p1; exact p1.elim
    | some items =>
      rw [ei] at p1
      exact ⟨d, items, ω1, q1, ei, fun J hJ => p1 ω1 H1 J (Stp.refl R1.dom) R1 hJ⟩
  · cases d with
    | list l =>
      cases ei
      cases q1 with
      | lst rd r =>
        cases r1
        obtain ⟨_, _, _, hz⟩ := I1.list (.inl (rd_mono hide_same rd))
        exact iter_l I1 (.inl (rd_mono hide_same rd)) (k _ ⟨by rw [hK]; exact wk_list rd r, by rw [← dps_len r]; exact hz⟩)
    | tuple l =>
      cases ei
      cases q1 with
      | tup rd r =>
        cases r1
        obtain ⟨_, _, _, hz⟩ := I1.tuple (hK ▸ same_sqT hide_same rd)
        exact iter_t I1 (hK ▸ same_sqT hide_same rd) (k _ ⟨by rw [hK]; exact wk_tup rd r, by rw [← dps_len r]; exact hz⟩)
    | _ => cases ei
theorem rng1_ok {j : Int} {items : List D} (h : itOf .rng [.int j] = some items) : -(2 ^ 62) ≤ j ∧ j < 2 ^ 62 ∧ j.toNat ≤ big ∧ items = rngD 0 j.toNat := by
  simp only [itOf] at h
  by_cases z : (small j && decide (j.toNat ≤ big)) = true
  · rw [if_pos z] at h
    simp only [small, Bool.and_eq_true, decide_eq_true_eq] at z
    exact ⟨z.1.1, z.1.2, z.2, (Option.some.inj h).symm⟩
  · rw [if_neg z] at h; cases h
theorem rng2_ok {i j : Int} {items : List D} (h : itOf .rng [.int i, .int j] = some items) : (-(2 ^ 62) ≤ i ∧ i < 2 ^ 62 ∧ -(2 ^ 62) ≤ j ∧ j < 2 ^ 62) ∧ (j - i).toNat ≤ big ∧ items = rngD i (j - i).toNat := by
  simp only [itOf] at h
  by_cases z : (small i && small j && decide ((j - i).toNat ≤ big)) = true
  · rw [if_pos z] at h
    simp only [small, Bool.and_eq_true, decide_eq_true_eq] at z
    exact ⟨⟨z.1.1.1, z.1.1.2, z.1.2.1, z.1.2.2⟩, z.2, (Option.some.inj h).symm⟩
  · rw [if_neg z] at h; cases h
theorem pi_rng1 {m : Ex} {e : Expr} {p1 pos : Pos} (hg : Gl X "range") (hm : X.mg "range" = none) (hs : notStar e = true) (h : SE C X m e) : PI X tg (.Call (.Name "range" p1) [e] [] pos) (tI C .rng (.cons m .nil)) := by
  refine ⟨fun pins s σ H R I ⟨G, ω, c, Rl, p⟩ => (pi_range1 hg hm (pa_V (star_of hs) h.v pa_V0) (star_of hs)).run pins s σ H R I ⟨G, ω, c, Rl, ?_⟩⟩
  simp only [itR] at p
  refine p.bind fun ds c1 ω1 H1 xs ed s1 R1 q1 p1 => ?_
  have el := denVs_len _ _ _ _ ed
  simp only [Exs.len] at el
  cases ei : itOf .rng ds with
  | none => rw [ei] at p1; exact p1.elim
  | some items =>
    rw [ei] at p1
    match ds, el, q1, ei with
    | [d], _, .cons a .nil, ei =>
      cases d with
      | int j =>
        cases a
        obtain ⟨z1, z2, z3, rfl⟩ := rng1_ok ei
        exact ⟨j, rfl, z1, z2, p1 ω1 H1 _ (Stp.refl R1.dom) R1 ⟨wk_rng, by rw [rngD_len, ← big_line]; exact z3⟩⟩
      | _ => cases ei
theorem pi_rng2 {m m2 : Ex} {e e2 : Expr} {p1 pos : Pos} (hg : Gl X "range") (hm : X.mg "range" = none) (hs : notStar e = true) (hs2 : notStar e2 = true) (h : SE C X m e) (h2 : SE C X m2 e2) : PI X tg (.Call (.Name "range" p1) [e, e2] [] pos) (tI C .rng (.cons m (.cons m2 .nil))) := by
  refine ⟨fun pins s σ H R I ⟨G, ω, c, Rl, p⟩ => (pi_range2 hg hm (pa_V (star_of hs) h.v (pa_V (star_of hs2) h2.v pa_V0)) (by rw [star_of hs, star_of hs2]; rfl) (star_of hs2)).run pins s σ H R I ⟨G, ω, c, Rl, ?_⟩⟩
  simp only [itR] at p
  refine p.bind fun ds c1 ω1 H1 xs ed s1 R1 q1 p1 => ?_
  have el := denVs_len _ _ _ _ ed
  simp only [Exs.len] at el
  cases ei : itOf .rng ds with
  | none => rw [ei] at p1; exact p1.elim
  | some items =>
    rw [ei] at p1
    match ds, el, q1, ei with
    | [d, d2], _, .cons a (.cons b .nil), ei =>
      cases d with
      | int i =>
        cases d2 with
        | int j =>
          cases a; cases b
          obtain ⟨z1, z3, rfl⟩ := rng2_ok ei
          exact ⟨i, j, rfl, z1, p1 ω1 H1 _ (Stp.refl R1.dom) R1 ⟨wk_rng, by rw [rngD_len, ← big_line]; exact z3⟩⟩
        | _ => cases ei
      | _ => cases ei
theorem rng3_ok {i j k : Int} {items : List D} (h : itOf .rng [.int i, .int j, .int k] = some items) : k = -1 ∧ (-(2 ^ 62) ≤ i ∧ i < 2 ^ 62 ∧ -(2 ^ 62) ≤ j ∧ j < 2 ^ 62) ∧ (i - j).toNat ≤ big ∧ items = rngN i (i - j).toNat := by
  simp only [itOf] at h
  by_cases z : (decide (k = -1) && small i && small j && decide ((i - j).toNat ≤ big)) = true
  · rw [if_pos z] at h
    simp only [small, Bool.and_eq_true, decide_eq_true_eq] at z
    exact ⟨z.1.1.1, ⟨z.1.1.2.1, z.1.1.2.2, z.1.2.1, z.1.2.2⟩, z.2, (Option.some.inj h).symm⟩
  · rw [if_neg z] at h; cases h
theorem pi_rng3 {m m2 m3 : Ex} {e e2 e3 : Expr} {p1 pos : Pos} (hg : Gl X "range") (hm : X.mg "range" = none) (hs : notStar e = true) (hs2 : notStar e2 = true) (hs3 : notStar e3 = true) (h : SE C X m e) (h2 : SE C X m2 e2) (h3 : SE C X m3 e3) : PI X tg (.Call (.Name "range" p1) [e, e2, e3] [] pos) (tI C .rng (.cons m (.cons m2 (.cons m3 .nil)))) := by
  refine ⟨fun pins s σ H R I ⟨G, ω, c, Rl, p⟩ => (pi_range3 hg hm (pa_V (star_of hs) h.v (pa_V (star_of hs2) h2.v (pa_V (star_of hs3) h3.v pa_V0))) (star_of hs) (stars_of (by simp [hs2, hs3]))).run pins s σ H R I ⟨G, ω, c, Rl, ?_⟩⟩
  simp only [itR] at p
  refine p.bind fun ds c1 ω1 H1 xs ed s1 R1 q1 p1 => ?_
  have el := denVs_len _ _ _ _ ed
  simp only [Exs.len] at el
  cases ei : itOf .rng ds with
  | none => rw [ei] at p1; exact p1.elim
  | some items =>
    rw [ei] at p1
    match ds, el, q1, ei with
    | [d, d2, d3], _, .cons a (.cons b (.cons c .nil)), ei =>
      cases d with
      | int i =>
        cases d2 with
        | int j =>
          cases d3 with
          | int k =>
            cases a; cases b; cases c
            obtain ⟨rfl, ⟨z1, z2, z3, z4⟩, z5, rfl⟩ := rng3_ok ei
            exact ⟨i, j, -1, _, rfl, RgC.neg z1 z2 z3 z4, p1 ω1 H1 _ (Stp.refl R1.dom) R1 ⟨wk_rngN, by rw [rngN_len, ← big_line]; exact z5⟩⟩
          | _ => cases ei
        | _ => cases ei
      | _ => cases ei
theorem pi_enu {m : Ex} {e : Expr} {p1 pos tpos : Pos} {elts : List Expr} {kk : Nat} (hK : X.K = C.K) (hg : Gl X "enumerate") (hm : X.mg "enumerate" = none) (hs : notStar e = true) (h : SE C X m e) :
    PI X (.Tuple elts kk tpos) (.Call (.Name "enumerate" p1) [e] [] pos) (tI C .enu (.cons m .nil)) := by
  refine ⟨fun pins s σ H R I ⟨G, ω, c, Rl, p⟩ => (pi_enum hg hm (pa_V (star_of hs) h.v pa_V0) (star_of hs)).run pins s σ H R I ⟨G, ω, c, Rl, ?_⟩⟩
  simp only [itR] at p
  refine p.bind fun ds c1 ω1 H1 xs ed s1 R1 q1 p1 => ?_
  have el := denVs_len _ _ _ _ ed
  simp only [Exs.len] at el
  cases ei : itOf .enu ds with
  | none => rw [ei] at p1; exact p1.elim
  | some items =>
    rw [ei] at p1
    match ds, el, q1, ei with
    | [d], _, .cons a .nil, ei =>
      cases d with
      | list l =>
        cases a with
        | lst rd r =>
          simp only [itOf] at ei
          by_cases z : l.length ≤ big
          · rw [if_pos z] at ei
            cases ei
            exact ⟨_, _, rfl, .inl (rd_mono hide_same rd), p1 ω1 H1 _ (Stp.refl R1.dom) R1 ⟨by rw [hK]; exact wk_enu rd r, by rw [enuD_len, ← big_line]; exact z⟩⟩
          · rw [if_neg z] at ei; cases ei
      | _ => cases ei
end
end Rp

/-! Rp, part 9: targets, comprehensions. -/
namespace Rp
open PySem PySem.Spec PyProof.Rows L2

noncomputable def setAll : L2.St → List Nat → List V → L2.St
  | σ, i :: is, x :: xs => setAll (σ.set i (some x)) is xs
  | σ, _, _ => σ
/-- but for some slots -/
structure RelO (n : Lv) (K : PySem.W.Frag) (G : Gh) (ω : Om) (σ : L2.St) (H : Hp) (c : Cfg) (vs : List Nat) : Prop where
  stp : Stp n.n G.ω0 G.H0 ω H
  slot : ∀ i w, i ∉ vs → getS c i = some w → SlotOk n K G ω σ H i w
  len : c.env.length = σ.length
  okp : OKeep G.L G.ω0 G.H0 H
section
variable {n : Lv} {K : PySem.W.Frag} {G : Gh} {ω : Om} {σ : L2.St} {H : Hp} {c c1 : Cfg}
theorem Rel.o (R : Rel n K G ω σ H c) (vs : List Nat) : RelO n K G ω σ H c vs := ⟨R.stp, fun i w _ e => R.slot i w e, R.len, R.okp⟩
theorem RelO.rel (R : RelO n K G ω σ H c []) : Rel n K G ω σ H c := ⟨R.stp, fun i w e => R.slot i w (by simp) e, R.len, R.okp⟩
theorem SlotOk.at {i : Nat} {w : W} {σ' : L2.St} (h : SlotOk n K G ω σ H i w) (e : σ'[i]? = σ[i]?) : SlotOk n K G ω σ' H i w := by
  cases w with
  | val d => obtain ⟨v, e1, r⟩ := h; exact ⟨v, e.trans e1, r⟩
  | own ds => obtain ⟨a, vs, e1, r⟩ := h; exact ⟨a, vs, e.trans e1, r⟩
  | exc _ _ => obtain ⟨b, d, e1, r⟩ := h; exact ⟨b, d, e.trans e1, r⟩
  | obj _ => obtain ⟨a, e1, r⟩ := h; exact ⟨a, e.trans e1, r⟩
  | lnt _ _ => obtain ⟨a, e1, r⟩ := h; exact ⟨a, e.trans e1, r⟩
theorem RelO.set {i : Nat} {vs : List Nat} {x : V} {d : D} (R : RelO n K G ω σ H c (i :: vs)) (q : Dq K (hide H ω) x d) : RelO n K G ω (σ.set i (some x)) H (setS c i (some (.val d))) vs := by
  refine ⟨R.stp, fun j w hj e => ?_, by unfold setS; rw [List.length_set, List.length_set]; exact R.len, R.okp⟩
  rcases getS_out e with ⟨e1, e2⟩ | ⟨ne, e2⟩
  · subst e1
    cases e2
    refine ⟨x, List.getElem?_set_self ?_, q⟩
    have := getS_lt e
    unfold setS at this
    rw [List.length_set, R.len] at this
    exact this
  · exact (R.slot j w (by simp [ne, hj]) e2).at (List.getElem?_set_ne (Ne.symm ne))
theorem RelO.sets : ∀ {is : List Nat} {ds : List D} {xs : List V} {σ : L2.St} {c : Cfg}, RelO n K G ω σ H c is → DqAll K (hide H ω) xs ds → bindL is ds c = some c1 → Rel n K G ω (setAll σ is xs) H c1
  | [], _, _, σ, c, R, q, e => by
    cases q with
    | nil => cases e; exact R.rel
    | cons _ _ => cases e
  | i :: is, _, _, σ, c, R, q, e => by
    cases q with
    | nil => cases e
    | cons a b => exact (R.set a).sets b e
theorem bindL_len : ∀ {is : List Nat} {ds : List D} {c : Cfg}, bindL is ds c = some c1 → ds.length = is.length
  | [], [], _, _ => rfl
  | [], _ :: _, _, e => by cases e
  | _ :: _, [], _, e => by cases e
  | i :: is, d :: ds, c, e => by rw [List.length_cons, List.length_cons, bindL_len (is := is) (ds := ds) e]
theorem wipe_set_at (i : Nat) (x : Option V) : ∀ (vs : List Nat) (σ : L2.St), (wipe (σ.set i x) vs).set i none = (wipe σ vs).set i none
  | [], σ => by simp [wipe, List.set_set]
  | v :: vs, σ => by
    unfold wipe
    by_cases h : v = i
    · subst h; rw [List.set_set, List.set_set]; exact wipe_set_at v x vs σ
    · rw [List.set_comm _ _ h, List.set_comm _ _ h, wipe_set_at i x vs σ]
theorem wipe_set {i : Nat} {x : Option V} : ∀ {vs : List Nat} {σ : L2.St}, i ∈ vs → wipe (σ.set i x) vs = wipe σ vs
  | v :: vs, σ, h => by
    unfold wipe
    by_cases e : i = v
    · subst e; exact wipe_set_at i x vs σ
    · rw [wipe_set (by simpa [e] using h)]
theorem wipe_sets : ∀ {is : List Nat} {xs : List V} {vs : List Nat} {σ : L2.St}, (∀ i ∈ is, i ∈ vs) → wipe (setAll σ is xs) vs = wipe σ vs
  | [], _, _, _, _ => rfl
  | i :: is, [], _, _, _ => rfl
  | i :: is, x :: xs, vs, σ, h => by
    unfold setAll
    rw [wipe_sets (fun j hj => h j (List.mem_cons_of_mem _ hj)), wipe_set (h i List.mem_cons_self)]
theorem wipe_get {i : Nat} : ∀ {vs : List Nat} {σ : L2.St}, i ∉ vs → (wipe σ vs)[i]? = σ[i]?
  | [], _, _ => rfl
  | v :: vs, σ, h => by
    unfold wipe
    rw [List.getElem?_set_ne (fun e => h (by rw [e]; exact List.mem_cons_self)), wipe_get (fun z => h (List.mem_cons_of_mem _ z))]
end

theorem wipe_wipe {vs : List Nat} {σ : L2.St} : ∀ {us : List Nat}, (∀ i ∈ us, i ∈ vs) → wipe (wipe σ us) vs = wipe σ vs
  | [], _ => rfl
  | u :: us, h => by
    show wipe ((wipe σ us).set u none) vs = _
    rw [wipe_set (h u List.mem_cons_self), wipe_wipe (us := us) fun i hi => h i (List.mem_cons_of_mem _ hi)]
theorem hide_upd {ω : Om} {H : Hp} {a : Addr} {q : Ow} {o : HO} (h : ω a = some q) : hide (upd H a o) ω = hide H ω := by
  funext b
  unfold hide
  cases e : ω b with
  | some _ => rfl
  | none => exact upd_ne (fun z => by rw [z, h] at e; cases e)
theorem Stp.mut {n : Nat} {ω ω' : Om} {H H' : Hp} {a : Addr} {o : HO} (s : Stp n ω H ω' H') (h : H a = none) (h' : H' a ≠ none) : Stp n ω H ω' (upd H' a o) := by
  refine ⟨fun b o' e k => by rw [upd_ne (ne_of_none e h)]; exact s.keep b o' e k, s.free, s.own, fun b e => ?_, s.dom, fun b q e => ?_⟩
  · by_cases z : b = a
    · rw [z, upd_same]; simp
    · rw [upd_ne z]; exact s.grow b e
  · by_cases z : b = a
    · rw [z, upd_same]; simp
    · rw [upd_ne z]; exact s.dom' b q e
theorem OKeep.mut {L : Option Addr} {ω : Om} {H H' : Hp} {a : Addr} {o : HO} (k : OKeep L ω H H') (h : H a = none) : OKeep L ω H (upd H' a o) := fun b o' x j e1 e2 e3 e4 => by rw [upd_ne (ne_of_none e4 h)]; exact k b o' x j e1 e2 e3 e4
theorem RelO.mutT {n : Lv} {K : PySem.W.Frag} {G : Gh} {ω : Om} {σ : L2.St} {H : Hp} {c : Cfg} {vs : List Nat} {a : Addr} {o : HO} (R : RelO n K G ω σ H c vs) (ho : ω a = some .tmp) (h0 : G.H0 a = none) (h : H a ≠ none) : RelO n K G ω σ (upd H a o) c vs := by
  refine ⟨R.stp.mut h0 h, fun j w hj e => ?_, R.len, R.okp.mut h0⟩
  have hh : hide (upd H a o) ω = hide H ω := hide_upd ho
  exact (R.slot j w hj e).move ⟨by rw [hh]; exact fun _ _ h => h, fun b us o' h2 => ⟨o', by rw [upd_ne (fun z => by rw [z, ho] at o'; cases o')]; exact h2⟩, fun b x k o2 o' _ h2 => ⟨o', by rw [upd_ne (fun z => by rw [z, ho] at o'; cases o')]; exact h2⟩⟩

/-! ### targets -/
noncomputable def gAll (is : List Nat) : TGs := fun vs σ H Q => vs.length = is.length ∧ Q (setAll σ is vs) H
noncomputable def gD (K : PySem.W.Frag) : List Nat → TG
  | [i] => gName i
  | is => gTup K is.length (gAll is)
section
variable {X : Cx}
/-- several names -/
inductive NM (X : Cx) : List Nat → List Expr → Prop
  | nil : NM X [] []
  | cons {i : Nat} {is : List Nat} {x : Str} {p : Pos} {es : List Expr} : PG X (.Name x p) (gName i) → NM X is es → NM X (i :: is) (.Name x p :: es)
theorem pgs_all {is : List Nat} {es : List Expr} (h : NM X is es) : PGs X es (gAll is) ∧ (assignEach es X.env).length = is.length ∧ (assignEach es X.env).findIdx? (·.1) = none := by
  induction h with
  | nil =>
    refine ⟨⟨fun pins s σ H vs us Q I r ⟨e, q⟩ => pgs_nil.run pins s σ H vs us Q I r ⟨List.length_eq_zero_iff.mp e, ?_⟩⟩, rfl, rfl⟩
    cases vs with
    | nil => exact q
    | cons _ _ => cases e
  | @cons i is x p es h _ ih =>
    obtain ⟨h1, h2, h3⟩ := ih
    refine ⟨⟨fun pins s σ H vs us Q I r ⟨e, q⟩ => (pgs_cons h h1 rfl).run pins s σ H vs us Q I r ?_⟩, ?_, ?_⟩
    · cases vs with
      | nil => cases e
      | cons v vs =>
        rw [List.length_cons, List.length_cons] at e
        exact ⟨v, vs, rfl, by omega, q⟩
    · show (_ :: assignEach es X.env).length = _
      rw [List.length_cons, h2, List.length_cons]
    · show List.findIdx? _ (_ :: assignEach es X.env) = none
      rw [List.findIdx?_cons, h3]
      rfl
/-- a target: a name, or several -/
inductive STg (X : Cx) : List Nat → Expr → Prop
  | one {i : Nat} {x : Str} {p : Pos} : PG X (.Name x p) (gName i) → STg X [i] (.Name x p)
  | two {i j : Nat} {is : List Nat} {es : List Expr} {k : Nat} {p : Pos} : NM X (i :: j :: is) es → STg X (i :: j :: is) (.Tuple es k p)
theorem STg.pg {tg : List Nat} {e : Expr} (hc : X.calm = true) (h : STg X tg e) : PG X e (gD X.K tg) := by
  cases h with
  | one h => exact h
  | two h =>
    obtain ⟨h1, h2, h3⟩ := pgs_all h
    exact pg_tup hc h1 h2 h3
end
section
variable {n : Lv} {K : PySem.W.Frag} {G : Gh} {ω : Om} {σ : L2.St} {H : Hp} {c c1 : Cfg}
theorem bind_ok {tg : List Nat} {d : D} {x : V} {Q : L2.St → Hp → Prop} (R : RelO n K G ω σ H c tg) (q : Dq K (hide H ω) x d) (e : bindT tg d c = some c1) (k : ∀ σ2, Rel n K G ω σ2 H c1 → wipe σ2 tg = wipe σ tg → Q σ2 H) : gD K tg x σ H Q := by
  have more : ∀ is : List Nat, tg = is → bindU is d c = some c1 → gTup K is.length (gAll is) x σ H Q := by
    intro is et e
    subst et
    cases d with
    | tuple ds =>
      cases q with
      | tup hq r =>
        have el := bindL_len e
        exact ⟨_, _, rfl, same_sqT hide_same hq, by rw [dps_len r, el], by rw [dps_len r, el], k _ (R.sets r e) (wipe_sets fun _ h => h)⟩
    | _ => cases e
  match tg, e with
  | [], e => exact more [] rfl e
  | [i], e =>
    cases e
    exact k _ (R.set q).rel (wipe_set (by simp))
  | i :: j :: is, e => exact more _ rfl e
end

/-! ### comprehensions -/
section
variable {C : C0} {X : Cx}
/-- within a comprehension no error comes -/
noncomputable abbrev C0.inn (C : C0) : C0 := { C with W := fun _ _ _ _ => False }
/-- within a comprehension that errors may leave -/
noncomputable abbrev C0.bk (C : C0) (b : Bool) (σ : L2.St) : C0 := { C with W := fun cls d _ H => b = true ∧ C.W cls d σ H }
theorem Post.wish {α β : Type} {G : Gh} {σ : L2.St} {ω : Om} {H : Hp} {r : Rs α} {rel : Hp → Om → Hp → β → α → Prop} {Q : β → Hp → Prop} {W' : WX} (h : Post C G σ ω H r rel Q) (f : ∀ c d σ H, C.W c d σ H → W' c d σ H) : Post { C with W := W' } G σ ω H r rel Q := by
  cases r with
  | ok a c => exact h
  | ex x c => exact fun ω' H' d s R q => f _ _ _ _ (h ω' H' d s R q)
  | no => exact h
theorem restore_out {c0 : Cfg} : ∀ {tg : List Nat} {c : Cfg} {j : Nat}, j ∉ tg → getS (restore c0 tg c) j = getS c j
  | [], _, _, _ => rfl
  | i :: r, c, j, h => by
    unfold restore
    rw [restore_out (fun z => h (List.mem_cons_of_mem _ z)), getS_ne (fun z => h (by rw [z]; exact List.mem_cons_self))]
theorem restore_in {c0 : Cfg} : ∀ {tg : List Nat} {c : Cfg} {j : Nat} {w : W}, j ∈ tg → getS (restore c0 tg c) j = some w → getS c0 j = some w
  | i :: r, c, j, w, h, e => by
    unfold restore at e
    by_cases z : j ∈ r
    · exact restore_in z e
    · rw [restore_out z] at e
      have ji : j = i := by simpa [z] using h
      subst ji
      rcases getS_out e with ⟨_, e2⟩ | ⟨ne, _⟩
      · exact e2
      · exact absurd rfl ne
theorem restore_len {c0 : Cfg} : ∀ {tg : List Nat} {c : Cfg}, (restore c0 tg c).env.length = c.env.length
  | [], _ => rfl
  | i :: r, c => by
    unfold restore
    rw [restore_len]
    unfold setS
    rw [List.length_set]
theorem sav_val {tg : List Nat} {c : Cfg} {i : Nat} {w : W} (h : savable tg c = true) (hi : i ∈ tg) (e : getS c i = some w) : ∃ d, w = .val d := by
  unfold savable at h
  rw [List.all_eq_true] at h
  have := h i hi
  rw [e] at this
  cases w with
  | val d => exact ⟨d, rfl⟩
  | own _ => cases this
  | exc _ _ => cases this
  | obj _ => cases this
  | lnt _ _ => cases this
/-- what the rest of a comprehension's loop is to bring -/
noncomputable def FinL (C : C0) (b : Bool) (G : Gh) (σ : L2.St) (ω0 : Om) (H0 : Hp) (c0 : Cfg) (tg : List Nat) (acc : List D) (r : Rs (List D)) (Q : VK) : Prop := match r with
  | .ok ds c => Wants C G σ ω0 H0 (restore c0 tg c) (.own (acc ++ ds)) Q
  | .ex x c => b = true ∧ ∀ ω' H' d, Stp C.l ω0 H0 ω' H' → Rel C.n C.K G ω' σ H' (restore c0 tg c) → Pay C.T C.K x d ω' H' → C.W (C.T.cls x.c) d σ H'
  | .no => False
theorem back_rel {n : Lv} {K : PySem.W.Frag} {G : Gh} {σ : L2.St} {ω1 ω' : Om} {H1 H' : Hp} {c1 c' : Cfg} {tg : List Nat} {m : Nat} (R1 : Rel n K G ω1 σ H1 c1) (sv : savable tg c1 = true) (st : Stp m ω1 H1 ω' H') (Ro : RelO n K G ω' (wipe σ tg) H' c' tg) : Rel n K G ω' σ H' (restore c1 tg c') := by
  refine ⟨Ro.stp, fun j w e => ?_, by rw [restore_len, Ro.len, wipe_length], Ro.okp⟩
  by_cases hj : j ∈ tg
  · have e0 := restore_in hj e
    obtain ⟨d, rfl⟩ := sav_val sv hj e0
    obtain ⟨v, e1, r⟩ := R1.slot j _ e0
    exact ⟨v, e1, dp_mono st.same _ _ r⟩
  · rw [restore_out hj] at e
    exact (Ro.slot j w hj e).at (wipe_get hj).symm
theorem comp_core {β : Bool} {me : Ex} {tg : List Nat} {mc : Exs} {σ : L2.St} {Q : VK} {G : Gh} {c1 : Cfg} {ω1 : Om} {H1 : Hp} {J : It} {items : List D} (R1 : Rel C.n C.K G ω1 σ H1 c1) (wk : WkD C.K J ω1 H1 items) (hz : items.length ≤ sizeLine) (sv : savable tg c1 = true)
    (fin0 : FinL C β G σ ω1 H1 c1 tg [] (compL tg (denTs C.k mc) (fun c => frzR ((den C.k me).v c)) items c1) Q) : ∀ D, H1 D = none → ∃ W : Nat → Nat → Hp → Prop, (∃ m, W 0 m (upd H1 D (.lst []))) ∧ ∀ i m H, W i m H →
      (J.stop i H ∧ Q (.ref D) H) ∨ (J.go i H ∧ ∃ Nx : Hp → Prop, (∀ H', Nx H' → ∃ m', m' < m ∧ W (i + 1) m' H') ∧ ∀ x H', J.yld i H x H' → gD C.K tg x (wipe σ tg) H' fun σ2 H2 => wipe σ2 tg = wipe σ tg ∧ tG (C.bk β σ) (denTs C.k mc) rT σ2 H2 fun b H3 =>
        if b = true then tV (C.bk β σ) me σ2 H3 fun y H4 => ∃ acc, H4 D = some (.lst acc) ∧ acc.length < sizeLine ∧ Nx (upd H4 D (.lst (acc ++ [y]))) else Nx H3) := by
    intro D hD
    refine ⟨fun i m H' => m = items.length - i ∧ i ≤ items.length ∧ ∃ ω' c' accv accd, Stp C.l ω1 H1 ω' H' ∧ RelO C.n C.K G ω' (wipe σ tg) H' c' tg ∧ H' D = some (.lst accv) ∧ ω' D = some .tmp ∧ accv.length ≤ i ∧ DqAll C.K (hide H' ω') accv accd ∧
      FinL C β G σ ω1 H1 c1 tg accd (compL tg (denTs C.k mc) (fun c => frzR ((den C.k me).v c)) (items.drop i) c') Q,
      ⟨items.length, by simp, Nat.zero_le _, setO ω1 D (some .tmp), c1, [], [], Stp.newO R1.dom hD, ?_, upd_same, setO_same, Nat.le_refl _, .nil, by rw [List.drop_zero]; exact fin0⟩, ?_⟩
    · have R2 := (R1.newT (o := .lst []) hD).o tg
      exact ⟨R2.stp, fun i w hi e => (R2.slot i w hi e).at (wipe_get hi), by rw [wipe_length]; exact R2.len, R2.okp⟩
    · rintro i m H' ⟨rfl, hi, ω', c', accv, accd, st, Ro, hDl, hDo, hal, hacc, fin⟩
      by_cases hlt : i < items.length
      · refine .inr ⟨wk.go i ω' H' st.same hlt, fun H'' => i + 1 ≤ items.length ∧ ∃ ω'' c'' accv accd, Stp C.l ω1 H1 ω'' H'' ∧ RelO C.n C.K G ω'' (wipe σ tg) H'' c'' tg ∧ H'' D = some (.lst accv) ∧ ω'' D = some .tmp ∧ accv.length ≤ i + 1 ∧ DqAll C.K (hide H'' ω'') accv accd ∧
          FinL C β G σ ω1 H1 c1 tg accd (compL tg (denTs C.k mc) (fun c => frzR ((den C.k me).v c)) (items.drop (i + 1)) c'') Q, fun H'' h => ⟨items.length - (i + 1), by omega, rfl, h⟩, fun x H2 hy => ?_⟩
        have hd : items[i]? = some items[i] := by simp [hlt]
        rw [List.drop_eq_getElem_cons hlt] at fin
        generalize items[i] = d at hd fin
        obtain ⟨hh, hq⟩ := wk.yld i ω' H' x H2 d st.same st.dom' hy hd
        -- the heap with the item
        have step2 : Stp C.l ω' H' ω' H2 ∧ RelO C.n C.K G ω' (wipe σ tg) H2 c' tg ∧ H2 D = some (.lst accv) ∧ DqAll C.K (hide H2 ω') accv accd := by
          rcases hh with rfl | ⟨T, o, hT, rfl⟩
          · exact ⟨Stp.refl st.dom', Ro, hDl, hacc⟩
          · have s2 : Stp C.l ω' H' ω' (upd H' T o) := Stp.new st.dom' hT
            exact ⟨s2, ⟨Ro.stp.trans s2, fun j w hj e => (Ro.slot j w hj e).move (Mv.new st.dom' hT), Ro.len, Ro.okp.trans Ro.stp (OKeep.new hT)⟩, by rw [upd_ne (ne_of_none hDl hT)]; exact hDl, dps_mono s2.same _ _ hacc⟩
        obtain ⟨s2, Ro2, hDl2, hacc2⟩ := step2
        unfold compL at fin
        cases eb : bindT tg d c' with
        | none => rw [eb] at fin; exact fin.elim
        | some cb =>
          rw [eb] at fin
          refine bind_ok Ro2 hq eb fun σ2 R2 hw => ⟨by rw [hw]; exact wipe_wipe fun _ h => h, ?_⟩
          refine ⟨G, ω', cb, R2, ?_⟩
          have fin : FinL C β G σ ω1 H1 c1 tg accd ((denTs C.k mc cb).bind fun t c2 => if t = true then (frzR ((den C.k me).v c2)).bind fun d c3 => (compL tg (denTs C.k mc) (fun c => frzR ((den C.k me).v c)) (items.drop (i + 1)) c3).bind fun ds c4 => .ok (d :: ds) c4
            else compL tg (denTs C.k mc) (fun c => frzR ((den C.k me).v c)) (items.drop (i + 1)) c2) Q := fin
          have hlen : σ2.length = (wipe σ tg).length := by
            have := congrArg List.length hw
            rw [wipe_length, wipe_length] at this
            exact this
          have ro : ∀ {ω4 : Om} {H4 : Hp} {c4 : Cfg}, Rel C.n C.K G ω4 σ2 H4 c4 → RelO C.n C.K G ω4 (wipe σ tg) H4 c4 tg := fun {ω4 H4 c4} R4 =>
            ⟨R4.stp, fun j w hj e => (R4.slot j w e).at (by rw [← wipe_get (σ := σ2) hj, hw, wipe_wipe fun _ h => h]), R4.len.trans hlen, R4.okp⟩
          revert fin
          cases et : denTs C.k mc cb with
          | no => exact fun fin => fin.elim
          | ex x c2 => exact fun fin ω3 H3 d s3 R3 q3 => ⟨fin.1, fin.2 ω3 H3 d ((st.trans s2).trans s3) (back_rel R1 sv ((st.trans s2).trans s3) (ro R3)) q3⟩
          | ok t c2 =>
            intro fin ω3 H3 b s3 R3 eb3
            cases eb3
            have st3 : Stp C.l ω1 H1 ω3 H3 := (st.trans s2).trans s3
            have hD3 : H3 D = some (.lst accv) := s3.keep D _ hDl2 (fun y k z => by rw [hDo] at z; cases z)
            have hO3 : ω3 D = some .tmp := by
              rcases s3.own D _ hDo with z | ⟨_, _, z, _⟩
              · exact z
              · cases z
            cases t with
            | false => exact ⟨hlt, ω3, c2, accv, accd, st3, ro R3, hD3, hO3, by omega, dps_mono s3.same _ _ hacc2, fin⟩
            | true =>
              refine ⟨G, ω3, c2, R3, ?_⟩
              have fin : FinL C β G σ ω1 H1 c1 tg accd ((frzR ((den C.k me).v c2)).bind fun d c3 => (compL tg (denTs C.k mc) (fun c => frzR ((den C.k me).v c)) (items.drop (i + 1)) c3).bind fun ds c4 => .ok (d :: ds) c4) Q := fin
              show Post (C.bk β σ) G σ2 ω3 H3 (frzR ((den C.k me).v c2)) (rV C.K) _
              revert fin
              cases ee : frzR ((den C.k me).v c2) with
              | no => exact fun fin => fin.elim
              | ex x c3 => exact fun fin ω4 H4 d s4 R4 q4 => ⟨fin.1, fin.2 ω4 H4 d (st3.trans s4) (back_rel R1 sv (st3.trans s4) (ro R4)) q4⟩
              | ok d4 c3 =>
                intro fin ω4 H4 y s4 R4 q4
                have hD4 : H4 D = some (.lst accv) := s4.keep D _ hD3 (fun y k z => by rw [hO3] at z; cases z)
                have hO4 : ω4 D = some .tmp := by
                  rcases s4.own D _ hO3 with z | ⟨_, _, z, _⟩
                  · exact z
                  · cases z
                have hh4 : hide (upd H4 D (.lst (accv ++ [y]))) ω4 = hide H4 ω4 := hide_upd hO4
                refine ⟨accv, hD4, by omega, hlt, ω4, c3, accv ++ [y], accd ++ [d4], (st3.trans s4).mut hD (by rw [hD4]; simp), (ro R4).mutT hO4 (R1.old hD) (by rw [hD4]; simp), upd_same, hO4, by rw [List.length_append]; simp; omega, ?_, ?_⟩
                · rw [hh4]
                  exact dps_app (dps_mono s4.same _ _ (dps_mono s3.same _ _ hacc2)) (.cons q4 .nil)
                · revert fin
                  rw [Rs.bind_ok]
                  cases compL tg (denTs C.k mc) (fun c => frzR ((den C.k me).v c)) (items.drop (i + 1)) c3 with
                  | no => exact fun fin => fin.elim
                  | ex _ _ => exact fun fin => fin
                  | ok ds c5 =>
                    intro fin
                    show Wants C G σ ω1 H1 (restore c1 tg c5) (.own (accd ++ [d4] ++ ds)) Q
                    rw [List.append_assoc]
                    exact fin
      · have e : i = items.length := by omega
        subst e
        rw [List.drop_length] at fin
        refine .inl ⟨wk.stop ω' H' st.same, ?_⟩
        have fin : Wants C G σ ω1 H1 (restore c1 tg c') (.own (accd ++ [])) Q := fin
        rw [List.append_nil] at fin
        exact fin ω' H' (.ref D) st (back_rel R1 sv st Ro) ⟨D, accv, rfl, hDo, hD, hDl, hacc⟩
theorem tLc_imp {wi : TI} {g : TG} {tt tt' : TT} {te te' : TE} {vs : List Nat} {σ : L2.St} {H : Hp} {Q : VK} (hw : ∀ {P P' : It → Hp → Prop}, (∀ J H, P J H → P' J H) → wi σ H P → wi σ H P') (hg : ∀ {x : V} {σ : L2.St} {H : Hp} {P P' : L2.St → Hp → Prop}, (∀ σ H, P σ H → P' σ H) → g x σ H P → g x σ H P')
    (ht : ∀ {σ : L2.St} {H : Hp} {P P' : Bool → Hp → Prop}, (∀ b H, P b H → P' b H) → tt σ H P → tt' σ H P') (he : ∀ {σ : L2.St} {H : Hp} {P : VK}, te σ H P → te' σ H P) (h : tLc wi g tt te vs σ H Q) : tLc wi g tt' te' vs σ H Q := by
  refine hw (fun J H1 q D hD => ?_) h
  obtain ⟨W, w0, hW⟩ := q D hD
  refine ⟨W, w0, fun i m H2 w => ?_⟩
  rcases hW i m H2 w with l | ⟨go, Nx, n1, n2⟩
  · exact .inl l
  · refine .inr ⟨go, Nx, n1, fun x H' y => hg (fun σ2 H3 ⟨q1, q2⟩ => ⟨q1, ht (fun b H4 q3 => ?_) q2⟩) (n2 x H' y)⟩
    cases b with
    | true => exact he q3
    | false => exact q3
theorem gD_mono {K : PySem.W.Frag} {tg : List Nat} {x : V} {σ : L2.St} {H : Hp} {P P' : L2.St → Hp → Prop} (f : ∀ σ H, P σ H → P' σ H) (h : gD K tg x σ H P) : gD K tg x σ H P' := by
  have more : ∀ is : List Nat, gTup K is.length (gAll is) x σ H P → gTup K is.length (gAll is) x σ H P' := fun is ⟨a, xs, e1, e2, e3, e4, e5⟩ => ⟨a, xs, e1, e2, e3, e4, f _ _ e5⟩
  match tg, h with
  | [], h => exact more [] h
  | [i], h => exact f _ _ h
  | i :: j :: is, h => exact more _ h
theorem comp_read {me : Ex} {tg : List Nat} {ik : ItK} {ms mc : Exs} {σ : L2.St} {H : Hp} {Q : VK} (h : tW C (.comp me tg ik ms mc) σ H Q) : tLc (tI C ik ms) (gD C.K tg) (tG C.inn (denTs C.k mc) rT) (tV C.inn me) tg σ H Q := by
  obtain ⟨G, ω, c, R, p⟩ := h
  have big : tLc (tI C ik ms) (gD C.K tg) (tG (C.bk false σ) (denTs C.k mc) rT) (tV (C.bk false σ) me) tg σ H Q := by
    refine ⟨G, ω, c, R, ?_⟩
    simp only [den, Den.of] at p
    refine p.bind fun items c1 ω1 H1 J _ s1 R1 ⟨wk, hz⟩ p1 => ?_
    by_cases sv : savable tg c1 = true
    · rw [if_pos sv] at p1
      refine comp_core R1 wk hz sv ?_
      revert p1
      cases compL tg (denTs C.k mc) (fun c => frzR ((den C.k me).v c)) items c1 with
      | ok ds c' => exact fun p1 => p1
      | ex x c' => exact fun p1 => p1.elim
      | no => exact fun p1 => p1.elim
    · rw [if_neg sv] at p1
      exact p1.elim
  refine tLc_imp (fun f ⟨G, ω, c, R, p⟩ => ⟨G, ω, c, R, p.mono f⟩) (fun f h => gD_mono f h) (fun f ⟨G, ω, c, R, p⟩ => ⟨G, ω, c, R, ?_⟩) (fun ⟨G, ω, c, R, p⟩ => ⟨G, ω, c, R, ?_⟩) big
  · exact (Post.wish (C := C.bk false σ) (W' := fun _ _ _ _ => False) p fun _ _ _ _ z => by cases z.1).mono f
  · exact Post.wish (C := C.bk false σ) (W' := fun _ _ _ _ => False) p fun _ _ _ _ z => by cases z.1
theorem comp_readX {me : Ex} {tg : List Nat} {ik : ItK} {ms mc : Exs} {σ : L2.St} {H : Hp} {Q : VK} (h : tW C (.compX me tg ik ms mc) σ H Q) : tLc (tI C ik ms) (gD C.K tg) (tG (C.bk true σ) (denTs C.k mc) rT) (tV (C.bk true σ) me) tg σ H Q := by
  obtain ⟨G, ω, c, R, p⟩ := h
  refine ⟨G, ω, c, R, ?_⟩
  simp only [den, Den.of] at p
  refine p.bind fun items c1 ω1 H1 J _ s1 R1 ⟨wk, hz⟩ p1 => ?_
  by_cases sv : savable tg c1 = true
  · rw [if_pos sv] at p1
    refine comp_core R1 wk hz sv ?_
    revert p1
    cases compL tg (denTs C.k mc) (fun c => frzR ((den C.k me).v c)) items c1 with
    | ok ds c' => exact fun p1 => p1
    | ex x c' => exact fun p1 => ⟨rfl, p1⟩
    | no => exact fun p1 => p1.elim
  · rw [if_neg sv] at p1
    exact p1.elim
/-- what a comprehension's block gives -/
structure BK (C : C0) (X : Cx) (me : Ex) (tg : List Nat) (ik : ItK) (ms mc : Exs) (elt tge it : Expr) (ifs : List Expr) (scope : Scope) (own : List (Str × Nat)) : Prop where
  ho : own.map (·.2) = tg
  ok : BlkOk X.N X.env.scope scope own
  hi : PI X tge it (tI C ik ms)
  hs : ∀ x, foldedSetIterable it X.env x = pure x
  hb : ∀ (s : Shared) (H : Hp) (D : Addr) (cl : List (Str × Addr)) (fp : List Addr), STg (X.blk s H scope (compEnvC scope cl D X.env) fp) tg tge ∧ PTs (X.blk s H scope (compEnvC scope cl D X.env) fp) ifs (tG C.inn (denTs C.k mc) rT) ∧ SE C.inn (X.blk s H scope (compEnvC scope cl D X.env) fp) me elt
theorem se_comp {elt it tge : Expr} {ifs : List Expr} {scope : Scope} {own : List (Str × Nat)} {pos : Pos} {me : Ex} {tg : List Nat} {ik : ItK} {ms mc : Exs} (hK : X.K = C.K) (hc : X.calm = true) (hN : X.N.Nodup) (B : BK C X me tg ik ms mc elt tge it ifs scope own) :
    SE C X (.comp me tg ik ms mc) (.ListComp elt [⟨tge, it, ifs, 0⟩] scope pos) := by
  have base := pe_lc (pos := pos) (g := gD X.K tg) hc hN B.hi B.ok (fun s H D cl fp => STg.pg (X := X.blk s H scope (compEnvC scope cl D X.env) fp) hc (B.hb s H D cl fp).1) (fun s H D cl fp => (B.hb s H D cl fp).2.1) (fun s H D cl fp => (B.hb s H D cl fp).2.2.v) B.hs
  rw [B.ho, hK] at base
  exact .of hK rfl (fun _ => rfl) (fun _ => rfl) (pe_imp base fun σ H Q h => comp_read h)
/-- name = [..] -/
theorem ps_comp {i : Nat} {y : Str} {py spos : Pos} {elt it tge : Expr} {ifs : List Expr} {scope : Scope} {own : List (Str × Nat)} {pos : Pos} {me : Ex} {tg : List Nat} {ik : ItK} {ms mc : Exs} (hK : X.K = C.K) (hc : X.calm = true) (hN : X.N.Nodup) (B : BK C X me tg ik ms mc elt tge it ifs scope own)
    (hy : X.N[i]? = some y) (hyl : X.env.scope.names.lookup y = some .local) (hsw : swapsWith (.ListComp elt [⟨tge, it, ifs, 0⟩] scope pos) (some (.Name y py)) spos.line X.env = pure true) :
    PS X (.Assign [.Name y py] (.ListComp elt [⟨tge, it, ifs, 0⟩] scope pos) spos) (tAsg (tW C (.comp me tg ik ms mc)) (gName i)) := by
  have base := ps_setLc (g := gD X.K tg) (i := i) (py := py) (spos := spos) (pos := pos) hc hN hy hyl hsw B.hi B.ok (fun s H D cl fp => STg.pg (X := X.blk s H scope (compEnvC scope cl D X.env) fp) hc (B.hb s H D cl fp).1) (fun s H D cl fp => (B.hb s H D cl fp).2.1) (fun s H D cl fp => (B.hb s H D cl fp).2.2.v) B.hs
  rw [B.ho, hK] at base
  exact ⟨fun pins s σ H D I h => base.run pins s σ H D I (comp_read h)⟩
end
end Rp

/-! Rp, part 10: statements. -/
namespace Rp
open PySem PySem.Spec PyProof.Rows L2

/-- what follows of a statement -/
noncomputable def PostS (C : C0) (G : Gh) (ω : Om) (H : Hp) (r : Rs Fl) (D : Ends) : Prop := match r with
  | .ok .nx c => ∀ ω' σ' H', Same (hide H ω) (hide H' ω') → Rel C.n C.K G ω' σ' H' c → D.nx σ' H'
  | .ok (.rt w) c => ∀ ω' σ' H' v, Same (hide H ω) (hide H' ω') → Rel C.n C.K G ω' σ' H' c → RW C.K G.H0 ω' H' v w → D.rt v H'
  | .ok .bk c => ∀ ω' σ' H', Same (hide H ω) (hide H' ω') → Rel C.n C.K G ω' σ' H' c → D.bk σ' H'
  | .ok .ct c => ∀ ω' σ' H', Same (hide H ω) (hide H' ω') → Rel C.n C.K G ω' σ' H' c → D.ct σ' H'
  | .ex x c => ∀ ω' σ' H' d, Same (hide H ω) (hide H' ω') → Rel C.n C.K G ω' σ' H' c → Pay C.T C.K x d ω' H' → C.W (C.T.cls x.c) d σ' H'
  | .no => False
noncomputable def tS (C : C0) (run : Cfg → Rs Fl) : TS := fun D σ H => ∃ G ω c, Rel C.n C.K G ω σ H c ∧ PostS C G ω H (run c) D
section
variable {C : C0} {X : Cx} {G : Gh} {ω ω1 : Om} {H H1 : Hp} {σ : L2.St}
theorem PostS.step {r : Rs Fl} {D : Ends} (h : PostS C G ω H r D) (s : Same (hide H ω) (hide H1 ω1)) : PostS C G ω1 H1 r D := by
  match r with
  | .ok .nx c => exact fun ω' σ' H' t R => h ω' σ' H' (s.trans t) R
  | .ok (.rt w) c => exact fun ω' σ' H' v t R q => h ω' σ' H' v (s.trans t) R q
  | .ok .bk c => exact fun ω' σ' H' t R => h ω' σ' H' (s.trans t) R
  | .ok .ct c => exact fun ω' σ' H' t R => h ω' σ' H' (s.trans t) R
  | .ex x c => exact fun ω' σ' H' d t R q => h ω' σ' H' d (s.trans t) R q
  | .no => exact h
/-- an expression ahead of the rest of a statement -/
theorem PostS.bind {α β : Type} {r : Rs α} {k : α → Cfg → Rs Fl} {rel : Hp → Om → Hp → β → α → Prop} {D : Ends} {Q : β → Hp → Prop} (h : PostS C G ω H (r.bind k) D)
    (f : ∀ a c1 ω1 H1 v, Stp C.l ω H ω1 H1 → Rel C.n C.K G ω1 σ H1 c1 → rel H ω1 H1 v a → PostS C G ω1 H1 (k a c1) D → Q v H1) : Post C G σ ω H r rel Q := by
  cases r with
  | ok a c => exact fun ω' H' v s R q => f a c ω' H' v s R q (PostS.step (r := k a c) h s.same)
  | ex x c => exact fun ω' H' d s R q => h ω' σ H' d s.same R q
  | no => exact h
theorem ps_imp {st : Stmt} {t t' : TS} (h : PS X st t) (f : ∀ D σ H, t' D σ H → t D σ H) : PS X st t' := ⟨fun pins s σ H D I q => h.run pins s σ H D I (f D σ H q)⟩
theorem pss_imp {st : List Stmt} {t t' : TS} (h : PSs X st t) (f : ∀ D σ H, t' D σ H → t D σ H) : PSs X st t' := ⟨fun pins s σ H D I q => h.run pins s σ H D I (f D σ H q)⟩
/-- the tag of a new cell -/
theorem Stp.retag {n : Nat} {ωs ω : Om} {Hs H : Hp} {a : Addr} {q : Ow} (s : Stp n ωs Hs ω H) (ha : Hs a = none) (hH : H a ≠ none) : Stp n ωs Hs (setO ω a (some q)) H := by
  refine ⟨s.keep, fun b h e => ?_, fun b q e => ?_, s.grow, s.dom, fun b q e => ?_⟩
  · have z : b ≠ a := fun z => h (by rw [z]; exact ha)
    rw [setO_ne z]; exact s.free b h e
  · have z : b ≠ a := fun z => s.dom b q e (by rw [z]; exact ha)
    rw [setO_ne z]; exact s.own b q e
  · by_cases z : b = a
    · rw [z]; exact hH
    · rw [setO_ne z] at e; exact s.dom' b q e
theorem hide_tag {ω : Om} {H : Hp} {a : Addr} {q q' : Ow} (o : ω a = some q') : hide H (setO ω a (some q)) = hide H ω := by
  funext b
  unfold hide setO
  by_cases z : b = a
  · rw [if_pos z, z, o]
  · rw [if_neg z]
/-- a slot gets what an expression gave -/
theorem Rel.setW {Hs : Hp} {c : Cfg} {i : Nat} {x : V} {w : W} (R : Rel C.n C.K G ω σ H c) (q : RW C.K Hs ω H x w) (h0 : ∀ a, Hs a = none → G.H0 a = none) :
    ∃ ω', Same (hide H ω) (hide H ω') ∧ Rel C.n C.K G ω' (σ.set i (some x)) H (setS c i (some w)) := by
  have put : ∀ {ω' : Om}, Stp C.l G.ω0 G.H0 ω' H → (∀ j w, j ≠ i → getS c j = some w → SlotOk C.n C.K G ω' σ H j w) → (i < σ.length → SlotOk C.n C.K G ω' (σ.set i (some x)) H i w) → Rel C.n C.K G ω' (σ.set i (some x)) H (setS c i (some w)) := fun {ω'} st old new => by
    refine ⟨st, fun j w' e => ?_, by unfold setS; rw [List.length_set, List.length_set]; exact R.len, R.okp⟩
    rcases getS_out e with ⟨e1, e2⟩ | ⟨ne, e2⟩
    · subst e1
      cases e2
      have := getS_lt e
      unfold setS at this
      rw [List.length_set, R.len] at this
      exact new this
    · exact (old j w' ne e2).at (List.getElem?_set_ne (Ne.symm ne))
  cases w with
  | val d => exact ⟨ω, fun _ _ h => h, put R.stp (fun j w _ e => R.slot j w e) fun hi => ⟨x, List.getElem?_set_self hi, q⟩⟩
  | exc _ _ => exact q.elim
  | obj _ => exact q.elim
  | lnt _ _ => exact q.elim
  | own ds =>
    obtain ⟨a, vs, rfl, o, ha, h1, r⟩ := q
    have hh : hide H (setO ω a (some (.slot C.l i))) = hide H ω := hide_tag o
    refine ⟨setO ω a (some (.slot C.l i)), by rw [hh]; exact fun _ _ h => h, put (R.stp.retag (h0 a ha) (by rw [h1]; simp)) (fun j w ne e => ?_) fun hi => ⟨a, vs, List.getElem?_set_self hi, setO_same, h0 a ha, h1, by rw [hh]; exact r⟩⟩
    exact (R.slot j w e).move (Mv.tag (by rw [hh]; exact fun _ _ h => h) (by rw [o]; intro z; cases z) (by rw [o]; intro x k z; cases z))
/-- name = e -/
theorem asg_read {i : Nat} {m : Ex} {D : Ends} (h : tS C (exS C.k (.asg i m)) D σ H) : tAsg (tW C m) (gName i) D σ H := by
  obtain ⟨G, ω, c, R, p⟩ := h
  refine ⟨G, ω, c, R, ?_⟩
  simp only [exS] at p
  refine p.bind fun w c1 ω1 H1 x s1 R1 q1 p1 => ?_
  obtain ⟨ω2, sm, R2⟩ := R1.setW (i := i) q1 (fun a h => R.old h)
  exact p1 ω2 _ H1 sm R2
noncomputable def noComp : Expr → Bool
  | .ListComp .. | .SetComp .. | .DictComp .. => false
  | _ => true
theorem no_swap {e : Expr} {t : Option Expr} {l : Nat} {env : Env} (h : noComp e = true) : swapsWith e t l env = pure false := by
  unfold swapsWith
  cases e <;> first | rfl | cases h
theorem ps_asgN {i : Nat} {m : Ex} {x : Str} {e : Expr} {pos pos' : Pos} (hN : X.N.Nodup) (hi : X.N[i]? = some x) (hx : Loc X.env.scope x) (hf : X.fn x = true ∨ X.env.scope.names.lookup x = some .local) (hs : swapsWith e (some (.Name x pos')) pos.line X.env = pure false) (h : SE C X m e) :
    PS X (.Assign [.Name x pos'] e pos) (tS C (exS C.k (.asg i m))) := ps_imp (ps_set hN hi hx h.w hs hf) fun _ _ _ h => asg_read h
/-- a, b = e -/
noncomputable def noTup : Expr → Bool
  | .Tuple .. => false
  | _ => true
theorem no_stores {e : Expr} {ts : List Expr} {env : Env} (h : noTup e = true) : swappedStores ts e env = pure none := by
  unfold swappedStores
  cases e with
  | Tuple _ _ _ => cases h
  | _ => (cases ts with
    | nil => rfl
    | cons t r => cases r <;> cases t <;> rfl)
theorem ps_unp {is : List Nat} {m : Ex} {es : List Expr} {k : Nat} {e : Expr} {pos pos' : Pos} (hK : X.K = C.K) (hc : X.calm = true) (ht : STg X is (.Tuple es k pos')) (hnc : noComp e = true) (hnt : noTup e = true) (h : SE C X m e) :
    PS X (.Assign [.Tuple es k pos'] e pos) (tS C (exS C.k (.unp is m))) := by
  refine ps_imp (ps_asg h.v (ht.pg hc) (by unfold swapsWithSole; exact no_swap hnc) (no_stores hnt) rfl) fun D σ H ⟨G, ω, c, R, p⟩ => ⟨G, ω, c, R, ?_⟩
  simp only [exS] at p
  refine p.bind fun d c1 ω1 H1 x s1 R1 q1 p1 => ?_
  rw [hK]
  cases eb : bindT is d c1 with
  | none => rw [eb] at p1; cases d <;> exact p1.elim
  | some c2 =>
    rw [eb] at p1
    refine bind_ok (R1.o is) q1 eb fun σ2 R2 _ => ?_
    cases d with
    | tuple ds => exact p1 ω1 σ2 H1 (fun _ _ h => h) R2
    | _ => exact p1.elim
/-- name op= e -/
theorem ps_augN {i : Nat} {m : Ex} {x : Str} {e : Expr} {pos pos' : Pos} (hN : X.N.Nodup) (hi : X.N[i]? = some x) (hx : Loc X.env.scope x) (hf : X.fn x = true ∨ X.env.scope.names.lookup x = some .local) (add : Bool) (h : SE C X m e) :
    PS X (.AugAssign (.Name x pos') (if add then .Add else .Sub) e pos) (tS C (exS C.k (.aug i (if add then .add else .sub) m))) := by
  have ip : PIp X (if add then .Add else .Sub) (ipI fun a b => if add then a + b else a - b) := by
    cases add with
    | true => exact ip_add
    | false => exact ip_sub
  refine ps_imp (ps_aug hN hi hx h.v ip hf) fun D σ H ⟨G, ω, c, R, p⟩ => ?_
  simp only [exS] at p
  cases e1 : getS c i with
  | none => rw [e1] at p; exact p.elim
  | some w =>
    rw [e1] at p
    cases w with
    | val a =>
      obtain ⟨v, e2, r⟩ := R.slot i _ e1
      refine ⟨v, e2, G, ω, c, R, ?_⟩
      dsimp only at p
      refine p.bind fun b c1 ω1 H1 y s1 R1 q1 p1 => ?_
      have r1 : Dq C.K (hide H1 ω1) v a := dp_mono s1.same _ _ r
      cases a with
      | int i1 =>
        cases b with
        | int j1 =>
          cases r1
          cases q1
          cases add with
          | true => exact ⟨i1, j1, rfl, rfl, p1 ω1 _ H1 (fun _ _ h => h) (((R1.o [i]).set (.int _)).rel)⟩
          | false => exact ⟨i1, j1, rfl, rfl, p1 ω1 _ H1 (fun _ _ h => h) (((R1.o [i]).set (.int _)).rel)⟩
        | _ => cases add <;> exact p1.elim
      | _ => cases add <;> cases b <;> exact p1.elim
    | _ => exact p.elim

/-! ### lists changed in their slots -/
/-- the own list of a slot is changed -/
theorem Rel.mutS {c : Cfg} {i : Nat} {ds ds' : List D} {a : Addr} {vs' : List V} (R : Rel C.n C.K G ω σ H c) (e : getS c i = some (.own ds)) (ha : σ[i]? = some (some (.ref a))) (q : DqAll C.K (hide H ω) vs' ds') :
    H a ≠ none ∧ ω a = some (.slot C.l i) ∧ Same (hide H ω) (hide (upd H a (.lst vs')) ω) ∧ Rel C.n C.K G ω σ (upd H a (.lst vs')) (setS c i (some (.own ds'))) := by
  obtain ⟨b, us, e1, o, h0, h1, r⟩ := R.slot i _ e
  rw [ha] at e1
  cases e1
  have hh : hide (upd H a (.lst vs')) ω = hide H ω := hide_upd o
  have hn : H a ≠ none := by rw [h1]; simp
  refine ⟨hn, o, by rw [hh]; exact fun _ _ h => h, R.stp.mut h0 hn, fun j w ej => ?_, by unfold setS; rw [List.length_set]; exact R.len, R.okp.mut h0⟩
  rcases getS_out ej with ⟨e1, e2⟩ | ⟨ne, e2⟩
  · subst e1
    cases e2
    exact ⟨a, vs', ha, o, h0, upd_same, by rw [hh]; exact q⟩
  · refine (R.slot j w e2).move ⟨by rw [hh]; exact fun _ _ h => h, fun b us o' h3 => ⟨o', ?_⟩, fun b x k o2 o' _ h3 => ⟨o', ?_⟩⟩
    · rw [upd_ne (fun z => ?_)]
      · exact h3
      · rw [z, o] at o'
        injection o' with o'
        injection o' with _ o'
        exact ne o'.symm
    · rw [upd_ne (fun z => by rw [z, o] at o'; cases o')]
      exact h3
theorem few_args {e : Expr} {env : Env} {cpos : Pos} (h : notStar e = true) : ((backTo cpos (starEach [e] env)).all (fun x => !x.1) && (backToKw cpos (keywordEach [] env)).all (fun x => x.1.isSome)
      && decide (([e] : List Expr).length + ([] : List Keyword).length + (if ([] : List Keyword).isEmpty then 0 else 1) < 30)) = true := by
  rw [star_of h]; rfl
/-- x.append(e) -/
theorem ps_app {i : Nat} {m : Ex} {x : Str} {e : Expr} {p1 apos cpos pos : Pos} (hK : X.K = C.K) (hv : PE X (.Name x p1) (tVar i)) (hs : notStar e = true) (hl : (apos.endLine == cpos.line) = true) (h : SE C X m e) :
    PS X (.Expr (.Call (.Attribute (.Name x p1) "append" apos) [e] [] cpos) pos) (tS C (exS C.k (.app i m))) := by
  have pe := pe_bm (cpos := cpos) PySem.F.plainAttrs_list PySem.F.slot_list_append PySem.F.type_list_append mt_append hv (pa_cons h.v pa_nil (star_of hs)) rfl (few_args hs) hl (star_of hs) rfl
  refine ps_imp (ps_expr pe rfl) fun D σ H ⟨G, ω, c, R, p⟩ => ?_
  simp only [exS] at p
  cases e0 : getS c i with
  | none => rw [e0] at p; exact p.elim
  | some w =>
    rw [e0] at p
    cases w with
    | own ds0 =>
      dsimp only at p
      obtain ⟨a, us0, ea, _, _, hl0, _⟩ := R.slot i _ e0
      refine ⟨.ref a, ea, .inl ⟨rfl, us0, SqL.of hl0⟩, G, ω, c, R, p.bind fun d c1 ω1 H1 y s1 R1 q1 p1 => ?_⟩
      cases e2 : getS c1 i with
      | none => rw [e2] at p1; exact p1.elim
      | some w =>
        rw [e2] at p1
        cases w with
        | own ds =>
          dsimp only at p1
          obtain ⟨b, us, e1, o, h0, h1, r⟩ := R1.slot i _ e2
          rw [ea] at e1
          cases e1
          by_cases z : ds.length < big
          · rw [if_pos z] at p1
            refine ⟨a, us, y, rfl, rfl, h1, by rw [dps_len r, ← big_line]; exact z, ?_⟩
            obtain ⟨_, _, sm, R2⟩ := R1.mutS e2 ea (dps_app r (.cons q1 .nil))
            exact p1 ω1 σ _ sm R2
          · rw [if_neg z] at p1; exact p1.elim
        | _ => exact p1.elim
    | _ => exact p.elim
theorem few_args2 {e e2 : Expr} {env : Env} {cpos : Pos} (h : notStar e = true) (h2 : notStar e2 = true) : ((backTo cpos (starEach [e, e2] env)).all (fun x => !x.1) && (backToKw cpos (keywordEach [] env)).all (fun x => x.1.isSome)
      && decide (([e, e2] : List Expr).length + ([] : List Keyword).length + (if ([] : List Keyword).isEmpty then 0 else 1) < 30)) = true := by
  rw [star_of h, star_of h2]; rfl
theorem dps_ins {K : PySem.W.Frag} {H : Hp} : ∀ {us : List V} {ds : List D} {y : V} {d : D} (j : Nat), DqAll K H us ds → Dq K H y d → DqAll K H (us.take j ++ [y] ++ us.drop j) (ds.take j ++ [d] ++ ds.drop j)
  | _, _, _, _, 0, r, q => by simpa using DqAll.cons q r
  | _, _, _, _, j + 1, .nil, q => by simpa using DqAll.cons q .nil
  | _, _, _, _, j + 1, .cons a b, q => by simpa using DqAll.cons a (dps_ins j b q)
/-- x.insert(k, e) -/
theorem ps_inz {i : Nat} {m m2 : Ex} {x : Str} {e e2 : Expr} {p1 apos cpos pos : Pos} (hK : X.K = C.K) (hv : PE X (.Name x p1) (tVar i)) (hs : notStar e = true) (hs2 : notStar e2 = true) (hl : (apos.endLine == cpos.line) = true) (h : SE C X m e) (h2 : SE C X m2 e2) :
    PS X (.Expr (.Call (.Attribute (.Name x p1) "insert" apos) [e, e2] [] cpos) pos) (tS C (exS C.k (.inz i m m2))) := by
  have pe := pe_bm (cpos := cpos) PySem.F.plainAttrs_list PySem.F.slot_list_insert PySem.F.type_list_insert mt_insert hv (pa_cons h.v (pa_cons h2.v pa_nil (star_of hs2)) (star_of hs)) rfl (few_args2 hs hs2) hl (star_of hs) (by rw [star_of hs2]; rfl)
  refine ps_imp (ps_expr pe rfl) fun D σ H ⟨G, ω, c, R, p⟩ => ?_
  simp only [exS] at p
  cases e0 : getS c i with
  | none => rw [e0] at p; exact p.elim
  | some w =>
    rw [e0] at p
    cases w with
    | own ds0 =>
      dsimp only at p
      obtain ⟨a, us0, ea, _, _, hl0, _⟩ := R.slot i _ e0
      refine ⟨.ref a, ea, .inl ⟨rfl, us0, SqL.of hl0⟩, G, ω, c, R, p.bind fun d c1 ω1 H1 y s1 R1 q1 p1 => ⟨G, ω1, c1, R1, p1.bind fun d2 c2 ω2 H2 y2 s2 R2 q2 p2 => ?_⟩⟩
      cases e2 : getS c2 i with
      | none => rw [e2] at p2; exact p2.elim
      | some w =>
        rw [e2] at p2
        cases w with
        | own ds =>
          cases d with
          | int j =>
            dsimp only at p2
            obtain ⟨b, us, e1, o, h0, h1, r⟩ := R2.slot i _ e2
            rw [ea] at e1
            cases e1
            by_cases z : (decide (0 ≤ j) && decide (j ≤ ds.length) && decide (ds.length < big)) = true
            · rw [if_pos z] at p2
              simp only [Bool.and_eq_true, decide_eq_true_eq] at z
              cases q1
              have hb : big < 2 ^ 62 := by decide
              refine ⟨a, us, j, y2, rfl, rfl, h1, by rw [dps_len r, ← big_line]; exact z.2, z.1.1, by have := z.1.2; have := z.2; omega, ?_⟩
              obtain ⟨_, _, sm, R3⟩ := R2.mutS e2 ea (dps_ins j.toNat r q2)
              exact p2 ω2 σ _ sm R3
            · rw [if_neg z] at p2; exact p2.elim
          | _ => exact p2.elim
        | _ => exact p2.elim
    | _ => exact p.elim
/-- x.extend(e), e a new list -/
theorem ps_ext {i : Nat} {m : Ex} {x : Str} {e : Expr} {p1 apos cpos pos : Pos} (hK : X.K = C.K) (hv : PE X (.Name x p1) (tVar i)) (hs : notStar e = true) (hl : (apos.endLine == cpos.line) = true) (h : SE C X m e) :
    PS X (.Expr (.Call (.Attribute (.Name x p1) "extend" apos) [e] [] cpos) pos) (tS C (exS C.k (.ext i m))) := by
  have pe := pe_bm (cpos := cpos) PySem.F.plainAttrs_list PySem.F.slot_list_extend PySem.F.type_list_extend mt_extend hv (pa_cons h.w pa_nil (star_of hs)) rfl (few_args hs) hl (star_of hs) rfl
  refine ps_imp (ps_expr pe rfl) fun D σ H ⟨G, ω, c, R, p⟩ => ?_
  simp only [exS] at p
  cases e0 : getS c i with
  | none => rw [e0] at p; exact p.elim
  | some w =>
    rw [e0] at p
    cases w with
    | own ds0 =>
      dsimp only at p
      obtain ⟨a, us0, ea, _, _, hl0, _⟩ := R.slot i _ e0
      refine ⟨.ref a, ea, .inl ⟨rfl, us0, SqL.of hl0⟩, G, ω, c, R, p.bind fun w1 c1 ω1 H1 y s1 R1 q1 p1 => ?_⟩
      cases e2 : getS c1 i with
      | none => rw [e2] at p1; exact p1.elim
      | some w =>
        rw [e2] at p1
        cases w with
        | own ds =>
          cases w1 with
          | own es =>
            dsimp only at p1
            obtain ⟨b, us, e1, o, h0, h1, r⟩ := R1.slot i _ e2
            rw [ea] at e1
            cases e1
            obtain ⟨b2, vs2, rfl, o2, hb2, h2, r2⟩ := q1
            by_cases z : ds.length + es.length ≤ big
            · rw [if_pos z] at p1
              refine ⟨a, b2, us, vs2, rfl, rfl, h1, h2, by rw [dps_len r, dps_len r2, ← big_line]; exact z, ?_⟩
              obtain ⟨_, _, sm, R2⟩ := R1.mutS e2 ea (dps_app r r2)
              exact p1 ω1 σ _ sm R2
            · rw [if_neg z] at p1; exact p1.elim
          | _ => exact p1.elim
        | _ => cases w1 <;> exact p1.elim
    | _ => exact p.elim
/-- x[k] = e -/
theorem ps_six {i : Nat} {mk m : Ex} {x : Str} {e ek : Expr} {p1 p2 pos : Pos} (hv : PE X (.Name x p1) (tVar i)) (hnc : noComp e = true) (hnk : ∀ v, assign (.Subscript (.Name x p1) ek p2) X.env v = (do
      let ov ← holding [v] (eval (.Name x p1) X.env)
      let iv ← holding [v, ov] (eval ek X.env)
      standAt p2
      holding [v, ov, iv] (setItem ov iv v)
      release [v, ov, iv] [])) (hk : SE C X mk ek) (h : SE C X m e) :
    PS X (.Assign [.Subscript (.Name x p1) ek p2] e pos) (tS C (exS C.k (.six i mk m))) := by
  refine ps_imp (ps_asg h.v (pg_sub hv hk.v set_list hnk) (by unfold swapsWithSole; exact no_swap hnc) ?_ rfl) fun D σ H ⟨G, ω, c, R, p⟩ => ⟨G, ω, c, R, ?_⟩
  · unfold swappedStores
    cases e <;> rfl
  · simp only [exS] at p
    refine p.bind fun d c1 ω1 H1 y s1 R1 q1 p1 => ?_
    cases e0 : getS c1 i with
    | none => rw [e0] at p1; exact p1.elim
    | some w =>
      rw [e0] at p1
      cases w with
      | own ds0 =>
        dsimp only at p1
        obtain ⟨a, us0, ea, _, _, hl0, _⟩ := R1.slot i _ e0
        refine ⟨.ref a, ea, G, ω1, c1, R1, p1.bind fun b c2 ω2 H2 z s2 R2 q2 p2 => ?_⟩
        cases e2 : getS c2 i with
        | none => rw [e2] at p2; exact p2.elim
        | some w =>
          rw [e2] at p2
          cases w with
          | own ds =>
            cases b with
            | int j =>
              dsimp only at p2
              cases q2
              obtain ⟨b, us, e1, o, h0, h1, r⟩ := R2.slot i _ e2
              rw [ea] at e1
              cases e1
              by_cases hz : (decide (0 ≤ j) && decide (j < (ds.length : Int))) = true
              · rw [if_pos hz] at p2
                simp only [Bool.and_eq_true, decide_eq_true_eq] at hz
                refine ⟨a, us, j, j.toNat, rfl, rfl, h1, ?_, ?_⟩
                · unfold ixN
                  rw [if_pos hz.1, if_pos (by rw [dps_len r]; exact hz.2)]
                · obtain ⟨_, _, sm, R3⟩ := R2.mutS e2 ea (dps_set (RV.step q1 s2) j.toNat r)
                  exact p2 ω2 σ _ sm R3
              · rw [if_neg hz] at p2
                by_cases hy : (decide (j < 0) && decide (-(ds.length : Int) ≤ j)) = true
                · rw [if_pos hy] at p2
                  simp only [Bool.and_eq_true, decide_eq_true_eq] at hy
                  refine ⟨a, us, j, (j + ds.length).toNat, rfl, rfl, h1, ?_, ?_⟩
                  · unfold ixN
                    rw [if_neg (by omega), if_pos (by rw [dps_len r]; exact hy.2), dps_len r]
                  · obtain ⟨_, _, sm, R3⟩ := R2.mutS e2 ea (dps_set (RV.step q1 s2) (j + ds.length).toNat r)
                    exact p2 ω2 σ _ sm R3
                · rw [if_neg hy] at p2; exact p2.elim
            | _ => exact p2.elim
          | _ => cases b <;> exact p2.elim
      | _ => exact p1.elim

/-! ### flow -/
theorem ps_passS {pos : Pos} : PS X (.Pass pos) (tS C (exS C.k .pass)) := ps_imp ps_pass fun D σ H ⟨G, ω, c, R, p⟩ => p ω σ H (fun _ _ h => h) R
theorem ps_brk {pos : Pos} : PS X (.Break pos) (tS C (exS C.k .brk)) := ps_imp ps_break fun D σ H ⟨G, ω, c, R, p⟩ => p ω σ H (fun _ _ h => h) R
theorem ps_exp {m : Ex} {e : Expr} {pos : Pos} (hnc : noComp e = true) (h : SE C X m e) : PS X (.Expr e pos) (tS C (exS C.k (.exp m))) := by
  refine ps_imp (ps_expr h.v (no_swap hnc)) fun D σ H ⟨G, ω, c, R, p⟩ => ⟨G, ω, c, R, ?_⟩
  simp only [exS] at p
  exact p.bind fun d c1 ω1 H1 y s1 R1 q1 p1 => p1 ω1 σ H1 (fun _ _ h => h) R1
theorem pss_nilS : PSs X [] (tS C (exSs C.k .nil)) := pss_imp pss_nil fun D σ H ⟨G, ω, c, R, p⟩ => p ω σ H (fun _ _ h => h) R
theorem pss_consS {m : S} {ms : Ss} {st : Stmt} {sts : List Stmt} (h1 : PS X st (tS C (exS C.k m))) (h2 : PSs X sts (tS C (exSs C.k ms))) : PSs X (st :: sts) (tS C (exSs C.k (.cons m ms))) := by
  refine pss_imp (pss_cons h1 h2) fun D σ H ⟨G, ω, c, R, p⟩ => ⟨G, ω, c, R, ?_⟩
  simp only [exSs] at p
  cases er : exS C.k m c with
  | no => rw [er] at p; exact p
  | ex x c1 => rw [er] at p; exact p
  | ok f c1 =>
    rw [er, Rs.bind_ok] at p
    cases f with
    | nx => exact fun ω' σ' H' s R' => ⟨G, ω', c1, R', p.step s⟩
    | rt w => exact p
    | bk => exact p
    | ct => exact p
theorem ps_ifS {mc : Ex} {ma mb : Ss} {e : Expr} {a b : List Stmt} {pos : Pos} (hc : SE C X mc e) (ha : PSs X a (tS C (exSs C.k ma))) (hb : PSs X b (tS C (exSs C.k mb))) : PS X (.If e a b pos) (tS C (exS C.k (.ifs mc ma mb))) := by
  refine ps_imp (ps_if hc.t ha hb) fun D σ H ⟨G, ω, c, R, p⟩ => ⟨G, ω, c, R, ?_⟩
  simp only [exS] at p
  refine p.bind fun t c1 ω1 H1 b s1 R1 q1 p1 => ?_
  cases q1
  cases t with
  | true => exact ⟨G, ω1, c1, R1, p1⟩
  | false => exact ⟨G, ω1, c1, R1, p1⟩
/-- return e -/
theorem ps_retS {m : Ex} {e : Expr} {pos : Pos} (hv : ∀ i, m = .var i → PE X e (tVar i)) (h : SE C X m e) : PS X (.Return (some e) pos) (tS C (exS C.k (.ret m))) := by
  by_cases hm : ∃ i, m = .var i
  · obtain ⟨i, rfl⟩ := hm
    refine ⟨fun pins s σ H D I ⟨G, ω, c, R, p⟩ => ?_⟩
    simp only [exS] at p
    cases eo : retOwn (.var i) c with
    | none =>
      rw [eo] at p
      refine (ps_ret h.w).run pins s σ H D I ⟨G, ω, c, R, ?_⟩
      dsimp only at p
      refine p.bind fun w c1 ω1 H1 x s1 R1 q1 p1 => ?_
      refine p1 ω1 σ H1 x (fun _ _ h => h) R1 ?_
      cases w with
      | own ds => obtain ⟨a, vs, h1, h2, h3, h4⟩ := q1; exact ⟨a, vs, h1, h2, R.old h3, h4⟩
      | _ => exact q1
    | some r =>
      rw [eo] at p
      have hg : ∃ ds, getS c i = some (.own ds) ∧ r = (ds, setS c i none) := by
        unfold retOwn at eo
        dsimp only at eo
        split at eo
        · rename_i ds e1; cases eo; exact ⟨ds, e1, rfl⟩
        · cases eo
      obtain ⟨ds, e1, rfl⟩ := hg
      dsimp only at p
      obtain ⟨a, vs, ea, o, h0, h1, rr⟩ := R.slot i _ e1
      refine (ps_ret (hv i rfl)).run pins s σ H D I ⟨.ref a, ea, ?_⟩
      have hh : hide H (setO ω a (some .tmp)) = hide H ω := hide_tag o
      refine p (setO ω a (some .tmp)) σ H (.ref a) (by rw [hh]; exact fun _ _ h => h) ⟨R.stp.retag h0 (by rw [h1]; simp), fun j w ej => ?_, by unfold setS; rw [List.length_set]; exact R.len, R.okp⟩ ⟨a, vs, rfl, setO_same, h0, h1, by rw [hh]; exact rr⟩
      rcases getS_out ej with ⟨_, e2⟩ | ⟨ne, e2⟩
      · cases e2
      · refine (R.slot j w e2).move (Mv.tag (by rw [hh]; exact fun _ _ h => h) (fun z => ?_) (by rw [o]; intro x k z; cases z))
        rw [o] at z
        injection z with z
        injection z with _ z
        exact ne z.symm
  · refine ps_imp (ps_ret h.w) fun D σ H ⟨G, ω, c, R, p⟩ => ⟨G, ω, c, R, ?_⟩
    simp only [exS] at p
    have eo : retOwn m c = none := by
      unfold retOwn
      cases m <;> first | rfl | exact absurd ⟨_, rfl⟩ hm
    rw [eo] at p
    dsimp only at p
    refine p.bind fun w c1 ω1 H1 x s1 R1 q1 p1 => ?_
    refine p1 ω1 σ H1 x (fun _ _ h => h) R1 ?_
    cases w with
    | own ds => obtain ⟨a, vs, h1, h2, h3, h4⟩ := q1; exact ⟨a, vs, h1, h2, R.old h3, h4⟩
    | _ => exact q1
/-- for -/
theorem ps_forS {tg : List Nat} {ik : ItK} {ms : Exs} {mb : Ss} {tge it : Expr} {body : List Stmt} {pos : Pos} (hK : X.K = C.K) (hp : PassesOwn (model X.prog X.w) X.A X.env X.xe) (hc : X.calm = true) (hi : PI X tge it (tI C ik ms)) (ht : STg X tg tge) (hb : PSs X body (tS C (exSs C.k mb)))
    (hs : ∀ x, foldedSetIterable it X.env x = pure x) : PS X (.For tge it body [] pos) (tS C (exS C.k (.for tg ik ms mb))) := by
  refine ps_imp (ps_for hp hc hi (ht.pg hc) hb hs) fun D σ H ⟨G, ω, c, R, p⟩ => ⟨G, ω, c, R, ?_⟩
  simp only [exS] at p
  refine p.bind fun items c1 ω1 H1 J s1 R1 ⟨wk, _⟩ p1 => ?_
  refine ⟨fun i m σ' H' => m = items.length - i ∧ i ≤ items.length ∧ ∃ ω' c', Same (hide H1 ω1) (hide H' ω') ∧ Rel C.n C.K G ω' σ' H' c' ∧ PostS C G ω' H' (forL tg (exSs C.k mb) (items.drop i) c') D, ⟨items.length, by simp, Nat.zero_le _, ω1, c1, fun _ _ h => h, R1, by rw [List.drop_zero]; exact p1⟩, ?_⟩
  rintro i m σ' H' ⟨rfl, hi, ω', c', sm, R', p'⟩
  by_cases hlt : i < items.length
  · refine .inr ⟨wk.go i ω' H' sm hlt, fun σ'' H'' => i + 1 ≤ items.length ∧ ∃ ω'' c'', Same (hide H1 ω1) (hide H'' ω'') ∧ Rel C.n C.K G ω'' σ'' H'' c'' ∧ PostS C G ω'' H'' (forL tg (exSs C.k mb) (items.drop (i + 1)) c'') D, fun σ'' H'' h => ⟨items.length - (i + 1), by omega, rfl, h⟩, fun x H2 hy => ?_⟩
    have hd : items[i]? = some items[i] := by simp [hlt]
    rw [List.drop_eq_getElem_cons hlt] at p'
    generalize items[i] = d at hd p'
    obtain ⟨hh, hq⟩ := wk.yld i ω' H' x H2 d sm R'.dom hy hd
    have step2 : Same (hide H' ω') (hide H2 ω') ∧ Rel C.n C.K G ω' σ' H2 c' := by
      rcases hh with rfl | ⟨T, o, hT, rfl⟩
      · exact ⟨fun _ _ h => h, R'⟩
      · exact ⟨hide_new R'.dom hT, R'.new hT⟩
    obtain ⟨sm2, R2⟩ := step2
    unfold forL at p'
    cases eb : bindT tg d c' with
    | none => rw [eb] at p'; exact p'.elim
    | some cb =>
      rw [eb] at p'
      dsimp only at p'
      rw [hK]
      refine bind_ok (R2.o tg) hq eb fun σ2 R3 _ => ⟨G, ω', cb, R3, ?_⟩
      have p2 : PostS C G ω' H2 ((exSs C.k mb cb).bind fun f c2 => match f with
        | .nx => forL tg (exSs C.k mb) (items.drop (i + 1)) c2
        | .ct => forL tg (exSs C.k mb) (items.drop (i + 1)) c2
        | .bk => .ok .nx c2
        | .rt w => .ok (.rt w) c2) D := p'.step sm2
      have sm3 : Same (hide H1 ω1) (hide H2 ω') := sm.trans sm2
      cases er : exSs C.k mb cb with
      | no => rw [er] at p2; exact p2
      | ex x c2 => rw [er] at p2; exact p2
      | ok f c2 =>
        rw [er, Rs.bind_ok] at p2
        cases f with
        | nx => exact fun ω4 σ4 H4 s4 R4 => ⟨hlt, ω4, c2, sm3.trans s4, R4, p2.step s4⟩
        | ct => exact fun ω4 σ4 H4 s4 R4 => ⟨hlt, ω4, c2, sm3.trans s4, R4, p2.step s4⟩
        | bk => exact p2
        | rt w => exact p2
  · have e : i = items.length := by omega
    subst e
    rw [List.drop_length] at p'
    exact .inl ⟨wk.stop ω' H' sm, p' ω' σ' H' (fun _ _ h => h) R'⟩
/-- while -/
theorem ps_whlS {mc : Ex} {mb : Ss} {e : Expr} {body : List Stmt} {pos : Pos} (hp : PassesOwn (model X.prog X.w) X.A X.env X.xe) (hc : SE C X mc e) (hb : PSs X body (tS C (exSs C.k mb))) : PS X (.While e body [] pos) (tS C (exS C.k (.whl mc mb))) := by
  refine ps_imp (ps_while hp hc.t hb) fun D σ H ⟨G, ω, c, R, p⟩ => ?_
  simp only [exS] at p
  refine ⟨fun m σ' H' => ∃ ω' c', Rel C.n C.K G ω' σ' H' c' ∧ PostS C G ω' H' (whlL (den C.k mc).t (exSs C.k mb) m c') D, ⟨wfuel, ω, c, R, p⟩, ?_⟩
  rintro m σ' H' ⟨ω', c', R', p'⟩
  cases m with
  | zero => exact p'.elim
  | succ m =>
    unfold whlL at p'
    refine ⟨G, ω', c', R', p'.bind fun t c1 ω1 H1 b s1 R1 q1 p1 => ?_⟩
    cases q1
    cases t with
    | false => exact p1 ω1 σ' H1 (fun _ _ h => h) R1
    | true =>
      have p1 : PostS C G ω1 H1 ((exSs C.k mb c1).bind fun f c2 => match f with
        | .nx => whlL (den C.k mc).t (exSs C.k mb) m c2
        | .ct => whlL (den C.k mc).t (exSs C.k mb) m c2
        | .bk => .ok .nx c2
        | .rt w => .ok (.rt w) c2) D := p1
      refine ⟨fun σ'' H'' => ∃ ω'' c'', Rel C.n C.K G ω'' σ'' H'' c'' ∧ PostS C G ω'' H'' (whlL (den C.k mc).t (exSs C.k mb) m c'') D, fun σ'' H'' h => ⟨m, Nat.lt_succ_self _, h⟩, G, ω1, c1, R1, ?_⟩
      cases er : exSs C.k mb c1 with
      | no => rw [er] at p1; exact p1
      | ex x c2 => rw [er] at p1; exact p1
      | ok f c2 =>
        rw [er, Rs.bind_ok] at p1
        cases f with
        | nx => exact fun ω4 σ4 H4 s4 R4 => ⟨ω4, c2, R4, p1.step s4⟩
        | ct => exact fun ω4 σ4 H4 s4 R4 => ⟨ω4, c2, R4, p1.step s4⟩
        | bk => exact p1
        | rt w => exact p1
/-- raise X('..') -/
theorem ps_raiseS {x : XC} {e : Expr} {pos : Pos} (kn : C.T.kn x) (hc : X.calm = true) (tk : Takes X C.W) (h : PMk X e (fun _ H Q => Q (C.T.cls x) none H)) : PS X (.Raise (some e) none pos) (tS C (exS C.k (.raise x))) :=
  ps_imp (ps_raise hc tk h) fun D σ H ⟨G, ω, c, R, p⟩ => p ω σ H none (fun _ _ h => h) R ⟨kn, rfl⟩
end
end Rp

/-! Rp, part T: try with several clauses, each with or without a name. -/
namespace Rp
open PySem PySem.Spec PyProof.Rows L2

noncomputable abbrev SuT := Addr → Value → Option Addr → TS
noncomputable def unI (i : Nat) (D : Ends) : Ends := { nx := fun σ' H' => D.nx (σ'.set i none) H', rt := D.rt, bk := fun σ' H' => D.bk (σ'.set i none) H', ct := fun σ' H' => D.ct (σ'.set i none) H' }
/-- what the clauses wish of an error of the body, one after the other -/
noncomputable def wGen (K : PySem.W.Frag) (Wout : WX) (D : Ends) : List (Value × Option Nat × SuT) → WX
  | [] => Wout
  | (c, none, ts) :: r => fun cls d σ H => ∃ b, PySem.W.exmOne K cls c = some b ∧ (b = true → ∀ a, H a = none → ts a cls d D σ H) ∧ (b = false → wGen K Wout D r cls d σ H)
  | (c, some i, ts) :: r => fun cls d σ H => ∃ b, PySem.W.exmOne K cls c = some b ∧ (b = true → ∀ a, H a = none → ts a cls d (unI i D) (σ.set i (some (.ref a))) H) ∧ (b = false → wGen K Wout D r cls d σ H)
inductive HdG (X : Cx) : List ExceptHandler → List (Value × Option Nat × SuT) → Prop
  | nil : HdG X [] []
  | cons {x : Str} {c : Value} {ts : SuT} {b₀ : Stmt} {suite : List Stmt} {np pos' : Pos} {hds : List ExceptHandler} {l : List (Value × Option Nat × SuT)} (hc : Names X x c)
      (hsu : ∀ (a : Addr) (oe : Obj) (cls : Value) (d : Option Addr) (pn : List (Addr × Obj)), Zc cls d oe → (∃ vs, oe.data = .fields vs) → PSs (X.suite a ((a, oe) :: pn)) (b₀ :: suite) (ts a cls d)) (r : HdG X hds l) :
      HdG X (.ExceptHandler (some (.Name x np)) none (b₀ :: suite) pos' :: hds) ((c, none, ts) :: l)
  | consAs {x n : Str} {i : Nat} {c : Value} {ts : SuT} {b₀ : Stmt} {suite : List Stmt} {np pos' : Pos} {hds : List ExceptHandler} {l : List (Value × Option Nat × SuT)} (hc : Names X x c) (hi : X.N[i]? = some n) (hln : X.env.kindOf n = some .local)
      (hsu : ∀ (a : Addr) (oe : Obj) (cls : Value) (d : Option Addr) (pn : List (Addr × Obj)), Zc cls d oe → (∃ vs, oe.data = .fields vs) → PSs (X.suite a ((a, oe) :: pn)) (b₀ :: suite) (ts a cls d)) (r : HdG X hds l) :
      HdG X (.ExceptHandler (some (.Name x np)) (some n) (b₀ :: suite) pos' :: hds) ((c, some i, ts) :: l)
section
variable {X : Cx} {body : List Stmt} {h₀ : ExceptHandler} {hds : List ExceptHandler} {l : List (Value × Option Nat × SuT)} {pos : Pos} {tb : WX → TS} {Wout : WX}
theorem ps_try_gen (hs : X.stack = X.env :: X.outer) (hf : X.env.frame = some X.env.locals) (hN : X.N.Nodup) (tk : Takes X Wout)
    (hb : ∀ (W : WX) (pn : List (Addr × Obj)) (xe : Value → Shared → Prop), Takes (X.tr pn xe) W → PassesOwn (model X.prog X.w) X.A X.env xe → PSs (X.tr pn xe) body (tb W))
    (hh : HdG X (h₀ :: hds) l) : PS X (.Try body (h₀ :: hds) [] [] pos) (fun D σ H => tb (wGen X.K Wout D l) D σ H) := by
  refine ⟨fun pins s σ H D I h => ?_⟩
  have ok := I.ok
  have hfr : X.A.frames = some (X.env :: X.outer) := by rw [ok.frames, hs]
  refine wpAny_Try_except ?_
  refine wpAny_mono ((hb (wGen X.K Wout D l) (X.pn ++ pins) (fun e s₁ => wpAny (model X.prog X.w) X.A (noteFrame e X.env) (fun _ s₂ => wpAny (model X.prog X.w) X.A (setFlight e none) (fun _ s₃ =>
    wpAny (model X.prog X.w) X.A (handleBy e X.env (h₀ :: hds)) (SP X pins D) X.xe s₃) X.xe s₂) X.xe s₁) (fun u s' xx => ?_) PassesOwn.looking).run [] s σ H D (I.toTry _) h) (fun f s1 hsp => ?_) (fun e s1 he => he)
  · obtain ⟨a, B, sI, pins', σ', H', cls, d, rfl, J', nb, up, sky, na, os, ag, w⟩ := xx
    have J : Inv X pins σ' H' sI := J'.ofTry ok
    have sky' : Sky B (X.env :: X.outer) a (Zc cls d) X.env.locals s'.heap := by rw [← hs]; exact sky
    show wpAny (model X.prog X.w) X.A (noteFrame (.ref a) X.env) _ _ _
    refine Sky.land Zc.steady hfr hf sky' fun h3 fl3 up3 => ?_
    have J3 : Inv X pins σ' H' { s' with heap := h3 } := J.landed nb fl3.1 (up.trans up3) os ag
    obtain ⟨oe3, vs3, he3, hz3, hd3⟩ := fl3.there
    have notFr : ∀ {h : Heap} {o : Obj} {vs : Array Value}, h.FunFrames B (X.env :: X.outer) → h.get? a = some o → o.data = .fields vs → a ∉ frs (X.env :: X.outer) := fun {h o vs} ff e dd hm => by
      obtain ⟨_, o', e', hnf⟩ := ff.mem hm
      rw [e] at e'; cases e'
      exact hnf _ dd
    have nfr := notFr fl3.2.2.1 he3 hd3
    have nL : a ≠ X.env.locals := fun z => nfr (List.mem_filterMap.mpr ⟨X.env, List.mem_cons_self, by rw [hf, z]⟩)
    have nF : a ∉ X.fs := fun hm => by
      obtain ⟨e, he, q⟩ := List.mem_filterMap.mp hm
      exact nfr (List.mem_filterMap.mpr ⟨e, List.mem_cons_of_mem _ he, q⟩)
    have S3 := J3.suite he3 hd3 na nL nF
    have LT : PySem.W.Looks (model X.prog X.w) h3 (typeOf (.ref a)) cls := fun A Q E s k q => wpAny_typeOf_ref (k _ _ he3) (by rw [hz3.1]; exact q)
    have test : ∀ {x : Str} {c : Value} {np : Pos} {Q : Value → Shared → Prop} {E : Value → Shared → Prop}, Names X x c → Q c { s' with heap := h3 } → wpAny (model X.prog X.w) (X.A.mark (some (.ref a))) (eval (.Name x np) X.env) Q E { s' with heap := h3 } := fun {x c np Q E} hc q => by
      obtain ⟨hg, hdbg, hm | ⟨hm, hv, hnn⟩⟩ := hc
      · exact ld_glob (X := X.suite a ((a, oe3) :: (X.pn ++ pins))) S3 hg hm q hdbg
      · exact ld_blt (X := X.suite a ((a, oe3) :: (X.pn ++ pins))) S3 hg hm hv q hnn hdbg
    have go : ∀ {hds' : List ExceptHandler} {l' : List (Value × Option Nat × SuT)}, HdG X hds' l' → wGen X.K Wout D l' cls d σ' H' →
        wpAny (model X.prog X.w) X.A (handleBy (.ref a) X.env hds') (SP X pins D) X.xe { s' with heap := h3 } := by
      intro hds' l' hk
      induction hk with
      | nil =>
        intro w
        refine wpAny_handleBy_nil ?_
        obtain ⟨k1, k2, k3, oe, vs, T, oT, ts', he, hz, hd, h1, hr⟩ := id fl3
        unfold PySem.passOn
        refine wpAny_bind (wpAny_field he hd h1 ?_)
        rw [if_neg (show ¬ ((Value.ref T == Value.none) = true) from by simp)]
        have fin : wpAny (model X.prog X.w) X.A (setFlight (.ref a) X.env.frame) (fun _ s4 => wpAny (model X.prog X.w) X.A (throw (.ref a) : Sem Flow) (SP X pins D) X.xe s4) X.xe { s' with heap := h3 } := by
          rw [hf]
          refine HandSPX.setFlight_upZ fl3 fun h4 hh4 up4 => wpAny_throw (tk _ _ ?_)
          exact ⟨a, B, sI, pins, σ', H', cls, d, rfl, J, nb, (up.trans up3).trans up4, .inr (.inr (by rw [hs]; exact hh4)), na, os, ag, w⟩
        first
          | exact wpAny_bind (wpAny_pure (wpAny_bind fin))
          | exact wpAny_bind fin
      | @cons x c ts b₀ suite np pos' hds2 l2 hc hsu r ih =>
        intro w
        obtain ⟨b, hb1, hyes, hno⟩ := w
        refine wpAny_handleBy_cons (codeAny_handlers_test ?_) (by intro q; cases q)
        have LM := PySem.W.exm_one (M := model X.prog X.w) (J3.kIn) LT hb1
        refine test hc (LM.here ?_)
        cases b with
        | true =>
          refine codeAny_handlers_suite ?_
          refine HandSPX.lands_againZ fl3 fun h4 fl4 up4 => ?_
          have J4 : Inv X pins σ' H' { s' with heap := h4 } := J.landed nb fl4.1 ((up.trans up3).trans up4) os ag
          obtain ⟨oe4, vs4, he4, hz4, hd4⟩ := fl4.there
          have S4 := J4.suite he4 hd4 na nL nF
          refine wpAny_mono ((hsu a oe4 cls d (X.pn ++ pins) hz4 ⟨_, hd4⟩).run [] _ _ H' _ S4 (hyes rfl a na)) (fun f s6 hsp => ?_) (fun _ _ z => False.elim z)
          cases f with
          | next =>
            obtain ⟨σ6, H6, S6, q6⟩ := hsp
            exact ⟨_, _, S6.unsuite ok, q6⟩
          | brk =>
            obtain ⟨σ6, H6, S6, q6⟩ := hsp
            exact ⟨_, _, S6.unsuite ok, q6⟩
          | cont =>
            obtain ⟨σ6, H6, S6, q6⟩ := hsp
            exact ⟨_, _, S6.unsuite ok, q6⟩
          | ret u =>
            obtain ⟨v6, σ6, H6, S6, r6, q6⟩ := hsp
            exact ⟨_, _, _, S6.unsuite ok, r6, q6⟩
        | false =>
          show wpAny _ X.A (handleBy (.ref a) X.env hds2) _ _ _
          exact ih (hno rfl)
      | @consAs x n i c ts b₀ suite np pos' hds2 l2 hc hi hln hsu r ih =>
        intro w
        obtain ⟨b, hb1, hyes, hno⟩ := w
        refine wpAny_handleBy_cons (codeAny_handlers_test ?_) (by intro q; cases q)
        have LM := PySem.W.exm_one (M := model X.prog X.w) (J3.kIn) LT hb1
        refine test hc (LM.here ?_)
        cases b with
        | true =>
          refine codeAny_handlers_suite_as ?_
          refine HandSPX.lands_againZ fl3 fun h4 fl4 up4 => ?_
          have J4 : Inv X pins σ' H' { s' with heap := h4 } := J.landed nb fl4.1 ((up.trans up3).trans up4) os ag
          obtain ⟨oe4, vs4, he4, hz4, hd4⟩ := fl4.there
          have S4 := J4.suite he4 hd4 na nL nF
          refine store_ok (X := X.suite a ((a, oe4) :: (X.pn ++ pins))) (v := .ref a) S4 hN hi (.inl hln) rfl (fun s5 S5 => ?_) (.inr hln)
          refine wpAny_mono ((hsu a oe4 cls d (X.pn ++ pins) hz4 ⟨_, hd4⟩).run [] s5 _ H' _ S5 (hyes rfl a na)) (fun f s6 hsp => ?_) (fun _ _ z => False.elim z)
          have end_ : ∀ {σ6 : L2.St} {H6 : Hp} {Q : Shared → Prop}, Inv (X.suite a ((a, oe4) :: (X.pn ++ pins))) [] σ6 H6 s6 → (∀ s7, Inv X pins (σ6.set i none) H6 s7 → Q s7) →
              wpAny (model X.prog X.w) X.A (do bindName X.env n .none; unbindBehindTheSuite X.env n pos') (fun _ s7 => Q s7) X.xe s6 := fun {σ6 H6 Q} S6 hq => gone_ok (S6.unsuite ok) hN hi hln hq
          cases f with
          | next =>
            obtain ⟨σ6, H6, S6, q6⟩ := hsp
            exact end_ S6 fun s7 J7 => ⟨_, _, J7, q6⟩
          | brk =>
            obtain ⟨σ6, H6, S6, q6⟩ := hsp
            exact end_ S6 fun s7 J7 => ⟨_, _, J7, q6⟩
          | cont =>
            obtain ⟨σ6, H6, S6, q6⟩ := hsp
            exact end_ S6 fun s7 J7 => ⟨_, _, J7, q6⟩
          | ret u =>
            obtain ⟨v6, σ6, H6, S6, r6, q6⟩ := hsp
            exact end_ S6 fun s7 J7 => ⟨_, _, _, J7, r6, q6⟩
        | false =>
          show wpAny _ X.A (handleBy (.ref a) X.env hds2) _ _ _
          exact ih (hno rfl)
    exact go hh w
  · cases f with
    | next =>
      obtain ⟨σ', H', J', q⟩ := hsp
      exact wpAny_execs_nil ⟨σ', H', J'.ofTry ok, q⟩
    | brk =>
      obtain ⟨σ', H', J', q⟩ := hsp
      exact ⟨σ', H', J'.ofTry ok, q⟩
    | cont =>
      obtain ⟨σ', H', J', q⟩ := hsp
      exact ⟨σ', H', J'.ofTry ok, q⟩
    | ret u =>
      obtain ⟨v, σ', H', J', r, q⟩ := hsp
      exact ⟨v, σ', H', J'.ofTry ok, r, q⟩
end
end Rp

/-! Rp, part X: a caught error: isinstance, its field; errors made with a field. -/
namespace Rp
open PySem PySem.Spec PyProof.Rows L2

/-- what a class of errors says -/
structure XCls (K : PySem.W.Frag) (Ca : Addr) : Prop where
  hga : PySem.W.findIn K (.ref Ca) "__getattribute__" = some (some (.builtin "BaseException.__getattribute__"))
  hgt : PySem.W.findIn K (.ref Ca) "__getattr__" = some none
  hsub : PySem.W.subIn K (.ref Ca) (.type "BaseException") = some true
  hd : PySem.W.hasDictIn K Ca = true
  ha : PySem.W.findIn K (.ref Ca) "__class__" = some (some (.builtin "object.__class__"))
  hn : PySem.W.specialIn K (.builtin "object.__class__") "__get__" = some (some (.builtin "getset_descriptor.__get__"))
  ht : PySem.W.takesIn K (.builtin "object.__class__") = some true
  hm : PySem.W.mroIn K Ca (.type "object") = some true
  hcl : (PySem.W.clsIn K Ca).isSome = true
noncomputable def xclsB (K : PySem.W.Frag) (Ca : Addr) : Bool :=
  decide (PySem.W.findIn K (.ref Ca) "__getattribute__" = some (some (.builtin "BaseException.__getattribute__"))) && decide (PySem.W.findIn K (.ref Ca) "__getattr__" = some none) &&
  decide (PySem.W.subIn K (.ref Ca) (.type "BaseException") = some true) && PySem.W.hasDictIn K Ca && decide (PySem.W.findIn K (.ref Ca) "__class__" = some (some (.builtin "object.__class__"))) &&
  decide (PySem.W.specialIn K (.builtin "object.__class__") "__get__" = some (some (.builtin "getset_descriptor.__get__"))) && decide (PySem.W.takesIn K (.builtin "object.__class__") = some true) &&
  decide (PySem.W.mroIn K Ca (.type "object") = some true) && (PySem.W.clsIn K Ca).isSome
theorem xclsB_ok {K : PySem.W.Frag} {Ca : Addr} (h : xclsB K Ca = true) : XCls K Ca := by
  unfold xclsB at h
  simp only [Bool.and_eq_true, decide_eq_true_eq] at h
  obtain ⟨⟨⟨⟨⟨⟨⟨⟨h1, h2⟩, h3⟩, h4⟩, h5⟩, h6⟩, h7⟩, h8⟩, h9⟩ := h
  exact ⟨h1, h2, h3, h4, h5, h6, h7, h8, h9⟩
/-- the error at b is held -/
structure HeldX (X : Cx) (T : Pr) (b : Addr) (c : XC) (d : Option Addr) : Prop where
  ex : ∃ (Ca : Addr) (oe : Obj), T.cls c = .ref Ca ∧ (b, oe) ∈ X.pn ∧ Zc (.ref Ca) d oe ∧ (∃ vs, oe.data = .fields vs) ∧ XCls X.K Ca
section
variable {C : C0} {X : Cx}
noncomputable def rIsX (X : Cx) (C : C0) : List V → Hp → VK → Prop := fun xs H Q => ∃ (b : Addr) (c0 : XC) (d : Option Addr) (c : V) (cv : Value) (t : Bool), xs = [.ref b, c] ∧ C.ex b c0 d ∧ (∀ u, RelV c u → u = cv) ∧ (∀ Ca, C.T.cls c0 = .ref Ca → PySem.W.kitOne X.K (.ref Ca) cv = some t) ∧
  (∀ dd, d = some dd → ∃ fs, H dd = some (.xd fs)) ∧ Q (.bl t) H
theorem inst_of {pins : List (Addr × Obj)} {σ : L2.St} {H : Hp} {s : Shared} {b Ca : Addr} {oe : Obj} {d : Option Addr} (I : Inv X pins σ H s) (hp : (b, oe) ∈ X.pn) (hz : Zc (.ref Ca) d oe) (hf : ∃ vs, oe.data = .fields vs) (hd : ∀ dd, d = some dd → ∃ fs, H dd = some (.xd fs)) :
    ∃ od, PySem.W.InstAt s.heap b oe Ca od := by
  obtain ⟨ha, _⟩ := I.pin (b, oe) (List.mem_append_left _ hp)
  obtain ⟨vs, hv⟩ := hf
  cases d with
  | none => exact ⟨none, ha, hz.1, by unfold PySem.W.notCls; rw [hv] <;> rfl, by rw [hz.2]; trivial⟩
  | some dd =>
    obtain ⟨fs, hx⟩ := hd dd rfl
    have hx : ObjOk X.prog X.w H s.heap dd (.xd fs) := I.hok dd _ hx
    obtain ⟨mA, hns, hr⟩ := hx
    obtain ⟨od, ho, hl⟩ := lookIn_ns hns
    exact ⟨some od, ha, hz.1, by unfold PySem.W.notCls; rw [hv] <;> rfl, by rw [hz.2]; exact ho⟩
theorem call_isX (hx : ∀ b c d, C.ex b c d → HeldX X C.T b c d) : CallR X (.builtin "isinstance") (rIsX X C) := by
  intro pins s σ H xs us Q I r h
  obtain ⟨b, c0, d, c, cv, t, rfl, ex, hcv, e, hd, q⟩ := h
  obtain ⟨Ca, oe, ec, hp, hz, hf, T⟩ := (hx b c0 d ex).ex
  cases r with
  | cons rx rr =>
    cases rr with
    | cons rt rr =>
      cases rr
      cases rx
      have ec := hcv _ rt
      subst ec
      obtain ⟨od, J⟩ := inst_of I hp hz hf hd
      exact PySem.W.kia_one (PySem.W.kitx_exc T.hcl T.hga T.hgt T.hsub T.ha T.hn T.ht T.hm) I.kIn J (e Ca (by assumption)) (fun z => nomatch z) fun tk => ⟨.bl t, H, I.kept (t' := tk) fun _ _ z => z, rfl, q⟩
theorem pay_xd {K : PySem.W.Frag} {x : Exn} {d : Option Addr} {h : Hp} (q : PayH K x d h) : ∀ dd, d = some dd → ∃ fs, h dd = some (.xd fs) := by
  intro dd e
  obtain ⟨c, p⟩ := x
  cases p with
  | none => rw [show d = none from q] at e; cases e
  | some p =>
    obtain ⟨d2, v, e2, h1, _⟩ := q
    rw [e2] at e
    cases e
    exact ⟨_, h1⟩
theorem se_isx {c' : XC} {i : Nat} {x y : Str} {cv : V} {cu : Value} {p1 p2 p3 pos : Pos} (hK : X.K = C.K) (hx : ∀ b c d, C.ex b c d → HeldX X C.T b c d) (hg : Gl X "isinstance") (hm : X.mg "isinstance" = none)
    (hv : PE X (.Name x p2) (tVar i)) (hy : PE X (.Name y p3) (tC cv)) (hu : ∀ u, RelV cv u → u = cu) (hk : ∀ b c d Ca, C.ex b c d → C.T.cls c = .ref Ca → PySem.W.kitOne X.K (.ref Ca) cu = some (subX c c')) :
    SE C X (.isx c' i) (.Call (.Name "isinstance" p1) [.Name x p2, .Name y p3] [] pos) := by
  have pa : PA X [.Name x p2, .Name y p3] (tCons (tVar i) (tCons (tC cv) tNil)) := pa_cons hv (pa_cons hy pa_nil rfl) rfl
  refine .of hK rfl (fun _ => rfl) (fun _ => rfl) (pe_imp (pe_callB (call_isX hx) hg hm (by decide +kernel) pa (by decide) (by decide) rfl rfl) fun σ H Q ⟨G, ω, c, R, p⟩ => ?_)
  simp only [den, Den.of] at p
  cases es : getS c i with
  | none => rw [es] at p; exact p.elim
  | some w =>
    rw [es] at p
    cases w with
    | val d => exact p.elim
    | own d => exact p.elim
    | obj d => exact p.elim
    | lnt _ _ => exact p.elim
    | exc c0 pp =>
      obtain ⟨b, d, e1, e2, e3⟩ := R.slot i _ es
      refine ⟨.ref b, e1, b, c0, d, cv, cu, subX c0 c', rfl, e2, hu, fun Ca ec => hk b c0 d Ca e2 ec, fun dd ed => ?_, p ω H _ (Stp.refl R.dom) R (.bl _)⟩
      obtain ⟨fs, h1⟩ := pay_xd e3 dd ed
      exact ⟨fs, hide_same _ _ h1⟩
/-- e.f of a held error -/
theorem se_fld {i : Nat} {x f : Str} {p1 pos : Pos} (hK : X.K = C.K) (hx : ∀ b c d, C.ex b c d → HeldX X C.T b c d) (hv : PE X (.Name x p1) (tVar i)) (hno : ∀ b c d Ca, C.ex b c d → C.T.cls c = .ref Ca → xf c = f → PySem.W.findIn X.K (.ref Ca) f = some none) :
    SE C X (.fld i f) (.Attribute (.Name x p1) f pos) := by
  refine .of hK rfl (fun _ => rfl) (fun _ => rfl) ⟨fun pins s σ H Q I ⟨G, ω, c, R, p⟩ => ?_⟩
  simp only [den, Den.of] at p
  cases es : getS c i with
  | none => rw [es] at p; exact p.elim
  | some w =>
    rw [es] at p
    cases w with
    | val d => exact p.elim
    | own d => exact p.elim
    | obj d => exact p.elim
    | lnt _ _ => exact p.elim
    | exc c0 pp =>
      cases pp with
      | none => exact p.elim
      | some dd =>
        by_cases hf0 : xf c0 = f
        · simp only [hf0, if_true] at p
          obtain ⟨b, d, e1, e2, e3⟩ := R.slot i _ es
          obtain ⟨Ca, oe, ec, hp, hz, hf, T⟩ := (hx b c0 d e2).ex
          obtain ⟨d2, v, ed, h1, h2⟩ := e3
          subst ed
          refine attr_of (by rfl) (thn (hv.run pins s σ H (fun x H1 => x = .ref b ∧ H1 = H) I ⟨.ref b, e1, rfl, rfl⟩) fun u s1 hh => ?_)
          obtain ⟨x, H1, I1, rx, ex, eH⟩ := hh
          subst ex eH
          obtain rfl : u = Value.ref b := rx
          have hx0 : H1 d2 = some (.xd [(xf c0, v)]) := hide_same _ _ h1
          have hx : ObjOk X.prog X.w H1 s1.heap d2 (.xd [(xf c0, v)]) := I1.hok d2 _ hx0
          obtain ⟨mA, hns, hr⟩ := hx
          obtain ⟨od, ho, hl⟩ := lookIn_ns hns
          obtain ⟨u, hu, ru⟩ := RelO.some_of (v := v) (o := mA f) (by have := hr f; rw [hf0] at this; simpa [List.lookup] using this)
          obtain ⟨ha, _⟩ := I1.pin (b, oe) (List.mem_append_left _ hp)
          obtain ⟨vs, hvs⟩ := hf
          have J : PySem.W.InstAt s1.heap b oe Ca (some od) := ⟨ha, hz.1, by unfold PySem.W.notCls; rw [hvs] <;> rfl, by rw [hz.2]; exact ho⟩
          exact HandSPX.exc_get I1.kIn J T.hga T.hgt T.hsub (PySem.W.findObj_own T.hd (hno b c0 _ Ca e2 ec hf0) rfl (by rw [hl, hu])) (handed_of ru) ⟨v, H1, I1.tok _, ru, p ω H1 v (Stp.refl R.dom) R h2⟩
        · simp only [hf0, if_false] at p; exact p.elim
end
end Rp

/-! Rp, part R: errors made with a field. -/
namespace Rp
open PySem PySem.Spec PyProof.Rows L2

/-- the base class's __init__, asked of the class -/
structure BInit (K : PySem.W.Frag) (C0 : Addr) : Prop where
  sp : PySem.W.specialIn K (.ref C0) "__getattribute__" = some (some (.builtin "type.__getattribute__"))
  rd : PySem.W.readsIn K C0 (.type "type") = true
  fi : PySem.W.findCls K (.ref C0) (.type "type") "__init__" = some (.val (.builtin "ValueError.__init__"))
noncomputable def binitB (K : PySem.W.Frag) (C0 : Addr) : Bool := decide (PySem.W.specialIn K (.ref C0) "__getattribute__" = some (some (.builtin "type.__getattribute__"))) && PySem.W.readsIn K C0 (.type "type") && (match PySem.W.findCls K (.ref C0) (.type "type") "__init__" with
  | some (.val (.builtin i)) => decide (i = "ValueError.__init__")
  | _ => false)
theorem binitB_ok {K : PySem.W.Frag} {C0 : Addr} (h : binitB K C0 = true) : BInit K C0 := by
  unfold binitB at h
  simp only [Bool.and_eq_true, decide_eq_true_eq] at h
  obtain ⟨⟨h1, h2⟩, h3⟩ := h
  refine ⟨h1, h2, ?_⟩
  split at h3
  · rename_i e
    rw [e, of_decide_eq_true h3]
  · cases h3
section
variable {X : Cx} {e : Expr} {es : List Expr} {ta : TA} {p1 p2 pos : Pos}
theorem pe_clsinit {xP : Str} {C0 : Addr} (hg : Gl X xP) (hm : X.mg xP = some (.ref C0)) (hdb : (xP == ("__debug__" : Str)) = false) (B : BInit X.K C0) (hline : (p2.endLine == pos.line) = true) (ha : PA X (e :: es) ta)
    (hfew : ((backTo pos (starEach (e :: es) X.env)).all (fun x => !x.1) && (backToKw pos (keywordEach [] X.env)).all (fun x => x.1.isSome)
      && decide ((e :: es).length + ([] : List Keyword).length + (if ([] : List Keyword).isEmpty then 0 else 1) < 30)) = true := by rfl)
    (he : starEach (e :: es) X.env = (false, eval e X.env) :: starEach es X.env := by rfl) (hpl : (backTo pos (starEach es X.env)).any (·.1) = false := by rfl) :
    PE X (.Call (.Attribute (.Name xP p1) "__init__" p2) (e :: es) [] pos) (tVeI X.K ta) := by
  refine ⟨fun pins s σ H Q I h => ?_⟩
  rw [arm_eval_Call, show attributeBase (.Name xP p1) "__init__" X.env (eval (.Name xP p1) X.env) = eval (.Name xP p1) X.env from rfl]
  refine wpAny_bind (ld_glob I hg hm (wpAny_bind (wpAny_standAt ?_)) hdb)
  have hform : methodCallForm ((e :: es).length + ([] : List Keyword).length) (backTo pos (starEach (e :: es) X.env)) (backToKw pos (keywordEach [] X.env)) = true := hfew
  have hpos : methodCallPos true (.Name xP p1) X.env p2 pos = pure pos := by unfold methodCallPos; simp [hline]
  unfold methodCall
  rw [hform]
  refine wpAny_bind (wpAny_holding (PySem.W.method_cls I.kIn B.sp (PySem.W.cls_value I.kIn B.rd B.fi (by decide +kernel) ?_)))
  refine wpAny_bind (wpAny_of_eq hpos ?_)
  show wpAny _ _ (callWith pos (Value.builtin "ValueError.__init__") [] (backTo pos (starEach (e :: es) X.env)) []) _ _ _
  refine PyProof.Rows.callWith_method1 (thn (ha.run pos pins _ σ H _ (I.tok _) h) fun us s1 ⟨vs, H1, I1, r1, a, C, ws, ev, hl, T, ea, q⟩ => ?_) he hpl
  subst ev
  cases r1 with
  | @cons _ u0 _ ur ra rw' =>
    obtain rfl : u0 = Value.ref a := ra
    have hlen : ur.length ≤ sizeLine := by
      rw [← Paired.length rw', sizeLine_eq]
      omega
    exact oinit_ok T I1 ea hlen fun s' J => ⟨.non, H1, J, rfl, q⟩
end
/-- what such an __init__ promises -/
noncomputable def spI (K : PySem.W.Frag) (f : Str) : Sp := fun vs H Q E => ∃ (a C : Addr) (v : V), vs = [.ref a, v] ∧ OexC K C ∧ PySem.W.findIn K (.ref C) f = some none ∧ H a = some (exo a C none) ∧ ∀ dx, H dx = none → dx ≠ a → Q .non (upd (upd H dx (exd dx [(f, v)])) a (exo a C (some dx)))
noncomputable def notDbgX (f : Str) : Bool := !(f == ("__debug__" : Str)) && !(f == ("__classdict__" : Str))
/-- its text -/
noncomputable def initB (f : Str) (xP : Str) : List Stmt → Bool
  | [.Expr (.Call (.Attribute (.Name y _) i q2) [.Name s1 _, .Constant (.str z) _ _] [] q5) _, .Assign [.Attribute (.Name s2 _) g _] (.Name g2 _) _] => y == xP && i == ("__init__" : Str) && s1 == ("self" : Str) && s2 == ("self" : Str) && g == f && g2 == f && (q2.endLine == q5.line)
  | _ => false
theorem initB_ok {f xP : Str} {l : List Stmt} (h : initB f xP l = true) : ∃ (p1 p2 p3 p4 p5 p6 p7 p8 p9 p10 : Pos) (j : Nat) (z : Str), (p2.endLine == p5.line) = true ∧ l = [.Expr (.Call (.Attribute (.Name xP p1) "__init__" p2) [.Name "self" p3, .Constant (.str z) j p4] [] p5) p6, .Assign [.Attribute (.Name "self" p7) f p8] (.Name f p9) p10] := by
  unfold initB at h
  split at h
  · simp only [Bool.and_eq_true, beq_iff_eq] at h
    obtain ⟨⟨⟨⟨⟨⟨rfl, rfl⟩, rfl⟩, rfl⟩, rfl⟩, rfl⟩, h⟩ := h
    exact ⟨_, _, _, _, _, _, _, _, _, _, _, _, by simpa using h, rfl⟩
  · cases h
section
variable {P : Program} {w : World} {K : PySem.W.Frag} {mg : Str → Option Value} {base : Heap}
theorem init_ok {CX : CXT} {k : Nat} {f xP x qual : Str} {C0 fI : Addr} {fd : FuncData} {params : Arguments} {body : List Stmt} {sc : Scope} (FD : FunD K x qual params body sc [] [] fI fd) (S : FnScope ["self", f] ["self", f] sc) (hb : initB f xP body = true)
    (hv1 : sc.names.lookup ("self" : Str) = some .local) (hv2 : sc.names.lookup f = some .local) (hf : notDbgX f = true) (hg : sc.names.lookup xP = some .globalImplicit) (hm : mg xP = some (.ref C0)) (hdb : (xP == ("__debug__" : Str)) = false) (B : BInit K C0) : FnOk P w K mg base CX (k + 1) fI fd ["self", f] (spI K f) := by
  obtain ⟨p1, p2, p3, p4, p5, p6, p7, p8, p9, p10, j, z, hl, rfl⟩ := initB_ok hb
  refine FD.ok S (fun vs H Q E q => by obtain ⟨_, _, _, rfl, _⟩ := q; rfl) fun cdv A outer s H vs Q E room q => ?_
  obtain ⟨a, C, v, rfl, T, hno, ha, q⟩ := q
  unfold notDbgX at hf
  simp only [Bool.and_eq_true, Bool.not_eq_true'] at hf
  have v0 : ∀ p, PE (cxOf CX P w K mg base ["self", f] qual sc fI cdv A outer s H E) (.Name "self" p) (tVar 0) := fun p => pe_var rfl (.inl hv1) (by decide) (by decide)
  have v1 : ∀ p, PE (cxOf CX P w K mg base ["self", f] qual sc fI cdv A outer s H E) (.Name f p) (tVar 1) := fun p => pe_var rfl (.inl hv2) hf.1 hf.2
  refine ⟨_, pss_cons (ps_expr (pe_clsinit hg hm hdb B hl (pa_cons (v0 _) (pa_cons pe_str pa_nil)))) (pss_one (ps_ost (v0 _) (v1 _))), ?_⟩
  refine ⟨.ref a, rfl, a, C, _, rfl, by show 1 ≤ 1000; decide, T, ha, ?_⟩
  refine ⟨v, rfl, .ref a, rfl, a, C, rfl, T, hno, .inl ⟨ha, fun dx hd hn => q dx hd hn⟩⟩
end
/-- a class of errors with a field, ready to be raised -/
structure XPay (X : Cx) (T : Pr) (x : Str) (c : XC) : Prop where
  ex : ∃ (Ca fI : Addr) (fd : FuncData), T.cls c = .ref Ca ∧ OexC X.K Ca ∧ PySem.W.findIn X.K (.ref Ca) (xf c) = some none ∧ X.mg x = some (.ref Ca) ∧ PySem.W.findIn X.K (.ref Ca) "__init__" = some (some (.ref fI)) ∧
    PySem.W.typeIn X.K (.ref fI) = some (.type "function") ∧ FnOk X.prog X.w X.K X.mg X.base (L2.CX X.prog X.w) 1 fI fd ["self", xf c] (spI X.K (xf c)) ∧ Binds X.K fd ["self", xf c] []
section
variable {C : C0} {X : Cx}
theorem ps_raisePS {x : XC} {y : Str} {m : Ex} {e : Expr} {p cp pos : Pos} (kn : C.T.kn x) (hK : X.K = C.K) (hc : X.calm = true) (tk : Takes X C.W) (XP : XPay X C.T y x) (hr : Room 2 X.A) (hg : Gl X y) (hdb : (y == ("__debug__" : Str)) = false) (hs : notStar e = true) (h : SE C X m e) :
    PS X (.Raise (some (.Call (.Name y p) [e] [] cp)) none pos) (tS C (exS C.k (.raiseP x m))) := by
  obtain ⟨Ca, fI, fd, ec, T, hno, hm, iC, tI, F1, hb⟩ := XP.ex
  have hx : Passes (L2.CX X.prog X.w) X (fun _ _ _ => False) := fun pins σ H s e s' I z => by
    obtain ⟨_, _, _, _, _, _, _, _, _, _, _, _, z⟩ := z
    exact z.elim
  refine ps_imp (ps_raise hc tk (pmk_oex (dvs := []) T iC tI F1 hr hb .nil hx hg hm (pa_cons h.v pa_nil (star_of hs)) hdb (star_of hs) rfl)) fun D σ H ⟨G, ω, c, R, q⟩ => ?_
  simp only [exS] at q
  refine ⟨G, ω, c, R, q.bind fun d c1 ω1 H1 v s1 R1 q1 p1 => ?_⟩
  refine ⟨by show 1 ≤ 1000; decide, fun a ha => ?_⟩
  refine ⟨a, Ca, v, rfl, T, hno, upd_same, fun dx hd hn => ⟨rfl, dx, [(xf x, v)], upd_same, by rw [upd_ne hn]; exact upd_same, ?_, ?_⟩⟩
  · rw [upd_ne hn] at hd; exact hd
  · have hd1 : H1 dx = none := by rw [upd_ne hn] at hd; exact hd
    have eH : upd (L2.del (upd (upd (upd H1 a (exo a Ca none)) dx (exd dx [(xf x, v)])) a (exo a Ca (some dx))) a) dx (.xd [(xf x, v)]) = upd H1 dx (.xd [(xf x, v)]) := by
      funext b
      by_cases z : b = dx
      · rw [z, upd_same, upd_same]
      · rw [upd_ne z, upd_ne z]
        by_cases y : b = a
        · rw [y, del_same, ha]
        · rw [del_ne y, upd_ne y, upd_ne z, upd_ne y]
    rw [eH, ← ec]
    have hf := R1.dom.free hd1
    have sm : Same (hide H1 ω1) (hide (upd H1 dx (.xd [(xf x, v)])) ω1) := hide_new R1.dom hd1
    refine p1 ω1 σ _ (some dx) sm (R1.new hd1) ⟨kn, dx, v, rfl, ?_, dp_mono sm _ _ q1⟩
    rw [hide_free hf, upd_same]
end
end Rp

/-! Rp, part S: try. -/
namespace Rp
open PySem PySem.Spec PyProof.Rows L2

noncomputable abbrev C0.st (C : C0) : C0 := { C with W := fun _ _ _ _ => False }
noncomputable abbrev C0.su (C : C0) (a : Addr) (cls : Value) (d : Option Addr) : C0 := { C with W := fun _ _ _ _ => False, ex := fun b c' d' => b = a ∧ C.T.cls c' = cls ∧ C.T.kn c' ∧ d' = d }
inductive HM (C : C0) (X : Cx) : Hs → List ExceptHandler → Prop
  | nil : HM C X .nil []
  | cons {c : XC} {mb : Ss} {r : Hs} {x : Str} {b₀ : Stmt} {suite : List Stmt} {np pos' : Pos} {hds : List ExceptHandler} (hc : Names X x (C.T.cls c)) (hk : C.T.kn c)
      (hsu : ∀ (a : Addr) (oe : Obj) (cls : Value) (d : Option Addr) (pn : List (Addr × Obj)), Zc cls d oe → (∃ vs, oe.data = .fields vs) → PSs (X.suite a ((a, oe) :: pn)) (b₀ :: suite) (tS C.st (exSs C.k mb))) (hr : HM C X r hds) :
      HM C X (.cons c none mb r) (.ExceptHandler (some (.Name x np)) none (b₀ :: suite) pos' :: hds)
  | consAs {c : XC} {i : Nat} {mb : Ss} {r : Hs} {x n : Str} {b₀ : Stmt} {suite : List Stmt} {np pos' : Pos} {hds : List ExceptHandler} (hc : Names X x (C.T.cls c)) (hk : C.T.kn c) (hi : X.N[i]? = some n) (hln : X.env.kindOf n = some .local)
      (hsu : ∀ (a : Addr) (oe : Obj) (cls : Value) (d : Option Addr) (pn : List (Addr × Obj)), Zc cls d oe → (∃ vs, oe.data = .fields vs) → PSs (X.suite a ((a, oe) :: pn)) (b₀ :: suite) (tS (C.su a cls d) (exSs C.k mb))) (hr : HM C X r hds) :
      HM C X (.cons c (some i) mb r) (.ExceptHandler (some (.Name x np)) (some n) (b₀ :: suite) pos' :: hds)
noncomputable def hsL (C : C0) : Hs → List (Value × Option Nat × SuT)
  | .nil => []
  | .cons c none mb r => (C.T.cls c, none, fun _ _ _ => tS C.st (exSs C.k mb)) :: hsL C r
  | .cons c (some i) mb r => (C.T.cls c, some i, fun a cls d => tS (C.su a cls d) (exSs C.k mb)) :: hsL C r
theorem HM.hd {C : C0} {X : Cx} {hs : Hs} {hds : List ExceptHandler} (h : HM C X hs hds) : HdG X hds (hsL C hs) := by
  induction h with
  | nil => exact .nil
  | cons hc hk hsu _ ih => exact .cons hc hsu ih
  | consAs hc hk hi hl hsu _ ih => exact .consAs hc hi hl hsu ih

theorem noExc_get {c : Cfg} {i : Nat} {x : XC} {p : Option D} (h : noExc c = true) (e : getS c i = some (.exc x p)) : False := by
  unfold noExc at h
  unfold getS at e
  rw [List.all_eq_true] at h
  cases q : c.env[i]? with
  | none => rw [q] at e; cases e
  | some o =>
    rw [q] at e
    have := h o (List.mem_of_getElem? q)
    cases o with
    | none => cases e
    | some w => cases e; simp at this
/-- from one knowledge of errors to another, where none is held -/
theorem Rel.ex {n : Nat} {e1 e2 : Addr → XC → Option Addr → Prop} {oc : OC} {K : PySem.W.Frag} {G : Gh} {ω : Om} {σ : L2.St} {H : Hp} {c : Cfg} (R : Rel ⟨n, e1, oc⟩ K G ω σ H c) (h : ∀ i x p, getS c i = some (.exc x p) → False) : Rel ⟨n, e2, oc⟩ K G ω σ H c := by
  refine ⟨R.stp, fun i w e => ?_, R.len, R.okp⟩
  have q := R.slot i w e
  cases w with
  | val d => exact q
  | own ds => exact q
  | exc x p => exact (h i x p e).elim
  | obj o => exact q
  | lnt _ _ => exact q
theorem Rel.cold {n : Nat} {e1 e2 : Addr → XC → Option Addr → Prop} {oc : OC} {K : PySem.W.Frag} {G : Gh} {ω : Om} {σ : L2.St} {H : Hp} {c : Cfg} (R : Rel ⟨n, e1, oc⟩ K G ω σ H c) (h : ∀ b c d, ¬ e1 b c d) : Rel ⟨n, e2, oc⟩ K G ω σ H c :=
  R.ex fun i x p e => by obtain ⟨b, d, _, z, _⟩ := R.slot i _ e; exact h _ _ _ z
theorem Rel.unset {n : Lv} {K : PySem.W.Frag} {G : Gh} {ω : Om} {σ : L2.St} {H : Hp} {c : Cfg} (R : Rel n K G ω σ H c) (i : Nat) : Rel n K G ω (σ.set i none) H (setS c i none) := by
  refine ⟨R.stp, fun j w e => ?_, by unfold setS; simp only [List.length_set]; exact R.len, R.okp⟩
  rcases getS_out e with ⟨e1, e2⟩ | ⟨ne, e2⟩
  · cases e2
  · exact (R.slot j w e2).at (List.getElem?_set_ne (Ne.symm ne))
theorem Rel.setX {n : Nat} {ex : Addr → XC → Option Addr → Prop} {oc : OC} {K : PySem.W.Frag} {G : Gh} {ω : Om} {σ : L2.St} {H : Hp} {c : Cfg} {i : Nat} {a : Addr} {x : Exn} {d : Option Addr} (R : Rel ⟨n, ex, oc⟩ K G ω σ H c) (hi : i < c.env.length) (h : ex a x.c d) (q : PayH K x d (hide H ω)) :
    Rel ⟨n, ex, oc⟩ K G ω (σ.set i (some (.ref a))) H (setS c i (some (.exc x.c x.p))) := by
  refine ⟨R.stp, fun j w e => ?_, by unfold setS; simp only [List.length_set]; exact R.len, R.okp⟩
  rcases getS_out e with ⟨e1, e2⟩ | ⟨ne, e2⟩
  · subst e1
    cases e2
    exact ⟨a, d, List.getElem?_set_self (by rw [← R.len]; exact hi), h, q⟩
  · exact (R.slot j w e2).at (List.getElem?_set_ne (Ne.symm ne))
section
variable {C : C0} {X : Cx} {G : Gh}
theorem st_post {ω : Om} {H : Hp} {r : Rs Fl} {D : Ends} (h : PostS C G ω H (noX r) D) : PostS C.st G ω H r D := by
  cases r with
  | no => exact h
  | ex x c => exact h.elim
  | ok f c => cases f <;> exact h
theorem su_post {ω ω' : Om} {H H' : Hp} {r : Rs Fl} {D : Ends} {i : Nat} {a : Addr} {cls : Value} {d : Option Addr} (hC : ∀ b c d, ¬ C.ex b c d) (sm : Same (hide H ω) (hide H' ω'))
    (h : PostS C G ω H ((noX r).bind fun f c => if noExc (setS c i none) then .ok f (setS c i none) else .no) D) : PostS (C.su a cls d) G ω' H' r (unI i D) := by
  cases r with
  | no => exact h
  | ex x c => exact h.elim
  | ok f c =>
    simp only [noX, Rs.bind_ok] at h
    cases en : noExc (setS c i none) with
    | false => rw [en] at h; exact h.elim
    | true =>
      rw [en, if_pos rfl] at h
      have back : ∀ {ω2 : Om} {σ2 : L2.St} {H2 : Hp}, Rel (C.su a cls d).n C.K G ω2 σ2 H2 c → Rel C.n C.K G ω2 (σ2.set i none) H2 (setS c i none) := fun {ω2 σ2 H2} R => (R.unset i).ex fun j x p e => noExc_get en e
      cases f with
      | nx => exact fun ω2 σ2 H2 s2 R2 => h ω2 _ H2 (sm.trans s2) (back R2)
      | bk => exact fun ω2 σ2 H2 s2 R2 => h ω2 _ H2 (sm.trans s2) (back R2)
      | ct => exact fun ω2 σ2 H2 s2 R2 => h ω2 _ H2 (sm.trans s2) (back R2)
      | rt w => exact fun ω2 σ2 H2 v s2 R2 q2 => h ω2 _ H2 v (sm.trans s2) (back R2) q2
theorem hs_wish {ω : Om} {H : Hp} {D : Ends} {x : Exn} {c1 : Cfg} (hC : ∀ b c d, ¬ C.ex b c d) (hex : ∀ c c', C.T.kn c → C.T.kn c' → PySem.W.exmOne X.K (C.T.cls c) (C.T.cls c') = some (subX c c')) {hs : Hs} {hds : List ExceptHandler} (hm : HM C X hs hds) :
    PostS C G ω H (exHs C.k hs x c1) D → ∀ ω' σ' H' d, Same (hide H ω) (hide H' ω') → Rel C.n C.K G ω' σ' H' c1 → Pay C.T C.K x d ω' H' → wGen X.K C.W D (hsL C hs) (C.T.cls x.c) d σ' H' := by
  induction hm with
  | nil => exact fun p => p
  | @cons c mb r x0 b₀ suite np pos' hds hc hk hsu hr ih =>
    intro p ω' σ' H' d sm R q
    simp only [exHs] at p
    refine ⟨subX x.c c, hex _ _ q.1 hk, fun e a ha => ?_, fun e => ?_⟩
    · rw [e, if_pos rfl] at p
      exact ⟨G, ω', c1, R, (st_post p).step sm⟩
    · rw [e] at p
      exact ih p ω' σ' H' d sm R q
  | @consAs c i mb r x0 n b₀ suite np pos' hds hc hk hi hl hsu hr ih =>
    intro p ω' σ' H' d sm R q
    simp only [exHs] at p
    refine ⟨subX x.c c, hex _ _ q.1 hk, fun e a ha => ?_, fun e => ?_⟩
    · rw [e, if_pos rfl] at p
      cases en : (noExc c1 && decide (i < c1.env.length)) with
      | false => rw [en] at p; exact p.elim
      | true =>
        rw [en, if_pos rfl] at p
        rw [Bool.and_eq_true, decide_eq_true_eq] at en
        refine ⟨G, ω', _, Rel.setX (x := x) (d := d) (R.cold hC) en.2 ⟨rfl, rfl, q.1, rfl⟩ q.2, su_post hC sm p⟩
    · rw [e] at p
      exact ih p ω' σ' H' d sm R q
theorem ps_tryS {mb : Ss} {mh : Hs} {body : List Stmt} {h₀ : ExceptHandler} {hds : List ExceptHandler} {pos : Pos} (hC : ∀ b c d, ¬ C.ex b c d) (hex : ∀ c c', C.T.kn c → C.T.kn c' → PySem.W.exmOne X.K (C.T.cls c) (C.T.cls c') = some (subX c c'))
    (hs : X.stack = X.env :: X.outer) (hf : X.env.frame = some X.env.locals) (hN : X.N.Nodup) (tk : Takes X C.W)
    (hb : ∀ (W : WX) (pn : List (Addr × Obj)) (xe : Value → Shared → Prop), Takes (X.tr pn xe) W → PassesOwn (model X.prog X.w) X.A X.env xe → PSs (X.tr pn xe) body (tS { C with W := W } (exSs C.k mb)))
    (hm : HM C X mh (h₀ :: hds)) : PS X (.Try body (h₀ :: hds) [] [] pos) (tS C (exS C.k (.try mb mh))) := by
  refine ps_imp (ps_try_gen hs hf hN tk hb hm.hd) fun D σ H ⟨G, ω, c, R, p⟩ => ⟨G, ω, c, R, ?_⟩
  simp only [exS] at p
  revert p
  generalize exSs C.k mb c = res
  intro p
  cases res with
  | no => exact p
  | ok f c1 => cases f <;> exact p
  | ex x c1 => exact hs_wish hC hex hm p
end
end Rp

/-! Rp, part D: dicts of the module. -/
namespace Rp
open PySem PySem.Spec PyProof.Rows L2

/-- the module's name x is a dict with these text keys, in this order -/
structure DctOk (X : Cx) (x : Str) (ks : List Str) (a : Addr) : Prop where
  mg : X.mg x = some (.ref a)
  ex : ∃ es n, KDict X.K X.w a es n ∧ es.toList.map He.keyOf = He.keysIn X.w.params ks
theorem find_keys {P : Params} {z : Str} : ∀ {l : List DictEntry} {ks : List Str}, l.map He.keyOf = He.keysIn P ks → (l.find? (·.key.isStr z)).isSome = decide (z ∈ ks) ∧ l.any (·.refKey) = false
  | [], [], _ => ⟨by simp, rfl⟩
  | [], _ :: _, h => by cases h
  | _ :: _, [], h => by cases h
  | e :: r, k :: ks, h => by
    have h1 : He.keyOf e :: r.map He.keyOf = some (k, PyData.keyHash P k) :: He.keysIn P ks := h
    injection h1 with h2 h3
    obtain ⟨i1, i2⟩ := find_keys (z := z) h3
    unfold He.keyOf at h2
    split at h2
    · rename_i x t q
      have h4 := Option.some.inj h2
      obtain ⟨h5, h6⟩ := Prod.mk.inj h4
      subst h5
      have e1 : e.key.isStr z = (x == z) := by rw [q]; rfl
      have e2 : e.refKey = false := by unfold DictEntry.refKey; rw [q]
      refine ⟨?_, ?_⟩
      · rw [List.find?_cons, e1]
        by_cases hz : x = z
        · subst hz; simp
        · have hz' : (x == z) = false := by simpa using hz
          rw [hz']
          dsimp only
          rw [i1]
          have : (z ∈ x :: ks) ↔ (z ∈ ks) := by simp [Ne.symm hz]
          simp only [this]
      · rw [List.any_cons, e2, i2]; rfl
    · cases h2
theorem DctOk.ns {X : Cx} {x : Str} {ks : List Str} {a : Addr} (D : DctOk X x ks a) (z : Str) : ∃ r, PySem.W.nsIn X.K a z = some r ∧ r.isSome = decide (z ∈ ks) := by
  obtain ⟨es, n, kd, hk⟩ := D.ex
  obtain ⟨f1, f2⟩ := find_keys (z := z) hk
  unfold PySem.W.nsIn
  rw [kd.at_]
  dsimp only
  cases q : es.toList.find? (·.key.isStr z) with
  | none => rw [q] at f1; rw [f2]; exact ⟨none, rfl, f1⟩
  | some e => rw [q] at f1; exact ⟨some e.val, rfl, f1⟩
section
variable {C : C0} {X : Cx} {a : Expr} {ma : Ex}
noncomputable def rInD (X : Cx) (d : Addr) (neg : Bool) : R2 := fun x y H Q => ∃ (z : Str) (r : Option Value), x = .str z ∧ y = .ref d ∧ PySem.W.nsIn X.K d z = some r ∧ Q (.bl (if neg then !r.isSome else r.isSome)) H
theorem op_inD {d : Addr} {es : Array DictEntry} {n : Nat} (D : KDict X.K X.w d es n) (neg : Bool) : OpR X (compareOp (if neg then .NotIn else .In)) (rInD X d neg) := by
  cases neg with
  | true => exact op_notIn_kd D
  | false => exact op_in_kd D
theorem inD_W {d : Addr} {x : Str} {ks : List Str} {neg : Bool} (D : DctOk X x ks d) {σ : L2.St} {H : Hp} {Q : VK} (h : tW C (.inD x ks neg ma) σ H Q) : tOp (rInD X d neg) (tP C ma) (tC (.ref d)) σ H Q := by
  obtain ⟨G, ω, c, R, q⟩ := h
  refine ⟨G, ω, c, R, ?_⟩
  simp only [den, Den.of] at q
  refine q.bind fun e c1 ω1 H1 y _ s1 R1 q1 p1 => ?_
  cases e with
  | str s =>
    obtain ⟨r, e1, e2⟩ := D.ns s
    rw [q1.str]
    refine ⟨s, r, rfl, rfl, e1, ?_⟩
    rw [e2]
    exact p1 ω1 H1 _ (Stp.refl R1.dom) R1 (.bl _)
  | _ => exact p1.elim
theorem inD_T {d : Addr} {x : Str} {ks : List Str} {neg : Bool} (D : DctOk X x ks d) {σ : L2.St} {H : Hp} {Q : Bool → Hp → Prop} (h : tT C (.inD x ks neg ma) σ H Q) : tTest (tOp (rInD X d neg) (tP C ma) (tC (.ref d))) σ H Q := by
  obtain ⟨G, ω, c, R, q⟩ := h
  refine ⟨G, ω, c, R, ?_⟩
  simp only [den, Den.of, truthR, frzR, Rs.bind_assoc] at q
  refine q.bind fun e c1 ω1 H1 y _ s1 R1 q1 p1 => ?_
  cases e with
  | str s =>
    obtain ⟨r, e1, e2⟩ := D.ns s
    rw [q1.str]
    refine ⟨s, r, rfl, rfl, e1, ?_⟩
    rw [e2]
    exact ⟨_, rfl, p1 ω1 H1 _ (Stp.refl R1.dom) R1 rfl⟩
  | _ => exact p1.elim
theorem se_inD {d : Addr} {x : Str} {ks : List Str} {neg : Bool} {p pos : Pos} (D : DctOk X x ks d) (hg : Gl X x) (hdb : (x == ("__debug__" : Str)) = false) (ha : SE C X ma a) : SE C X (.inD x ks neg ma) (.Compare a [if neg then .NotIn else .In] [.Name x p] pos) := by
  obtain ⟨es, n, kd, hk⟩ := D.ex
  have hn : PE X (.Name x p) (tC (.ref d)) := pe_glob hg D.mg rfl hdb
  have hm : behindInMarks (if neg then .NotIn else .In) (.Name x p) = false := rfl
  exact .mk' rfl (pe_imp (pe_cmpR (op_inD kd neg) ha.p hn hm) fun _ _ _ h => inD_W D h) (pt_imp (pt_cmpR (op_inD kd neg) ha.p hn hm) fun _ _ _ h => inD_T D h)
/-- what stands at the keys -/
noncomputable def ValsOk (X : Cx) (K : PySem.W.Frag) (a : Addr) (kvs : List (Str × D)) : Prop := ∀ q ∈ kvs, ∃ u v, PySem.W.nsIn X.K a q.1 = some (some u) ∧ RelV v u ∧ ∀ H, Dq K H v q.2
theorem lookup_mem {α : Type} {l : List (Str × α)} {z : Str} {v : α} (h : l.lookup z = some v) : (z, v) ∈ l := by
  induction l with
  | nil => cases h
  | cons p l ih =>
    obtain ⟨k, u⟩ := p
    rw [List.lookup_cons] at h
    cases q : z == k with
    | true => rw [q] at h; cases h; rw [beq_iff_eq.mp q]; exact List.mem_cons_self
    | false => rw [q] at h; exact List.mem_cons_of_mem _ (ih h)
theorem se_getD {d : Addr} {x : Str} {ks : List Str} {kvs : List (Str × D)} {p pos : Pos} (hK : X.K = C.K) (D : DctOk X x ks d) (V : ValsOk X C.K d kvs) (hg : Gl X x) (hdb : (x == ("__debug__" : Str)) = false) (ha : SE C X ma a) (hp : PlainIx a) : SE C X (.getD x kvs ma) (.Subscript (.Name x p) a pos) := by
  obtain ⟨es, n, kd, hk⟩ := D.ex
  have hn : PE X (.Name x p) (tC (.ref d)) := pe_glob hg D.mg rfl hdb
  refine .of hK rfl (fun _ => rfl) (fun _ => rfl) (pe_imp (pe_ix ix_kdict hn ha.p hp) fun σ H Q ⟨G, ω, c, R, q⟩ => ?_)
  refine ⟨G, ω, c, R, ?_⟩
  simp only [den, Den.of] at q
  refine q.bind fun e c1 ω1 H1 y _ s1 R1 q1 p1 => ?_
  cases e with
  | str s =>
    cases el : kvs.lookup s with
    | none => simp only [el] at p1; exact p1.elim
    | some dd =>
      simp only [el] at p1
      obtain ⟨u, v, e1, ru, dq⟩ := V _ (lookup_mem el)
      rw [q1.str]
      exact ⟨d, s, v, rfl, rfl, ⟨es, n, u, kd.at_, kd.lit, e1, ru⟩, p1 ω1 H1 v (Stp.refl R1.dom) R1 (dq _)⟩
  | _ => exact p1.elim
/-! ### a call by a name that holds a def -/
noncomputable def tCallD (C : C0) (X : Cx) (i : Nat) (ms : Exs) : TE := fun σ H Q => ∃ f fn fa, C.T.tab f = some fn ∧ CallOk X C.T C.m f fn ∧ σ[i]? = some (some (.ref fa)) ∧ X.mg (C.T.name f) = some (.ref fa) ∧ tVs C ms σ H fun vs H1 => vs.length = fn.np ∧ spF C.T X.K C.m f fn.np vs H1 Q (WE C.W σ)
theorem pe_callD {i : Nat} {x : Str} {e : Expr} {es : List Expr} {ms : Exs} {p1 pos : Pos} (hr : Room (C.m + 4) X.A) (hN : X.N[i]? = some x) (hv : Vis X.env.scope x) (pass : ∀ σ, PassesAt (L2.CX X.prog X.w) X σ (WE C.W σ)) (ha : PA X (e :: es) (tVs C ms)) (h1 : notStar e = true) (h2 : es.all notStar = true)
    (hd1 : (x == ("__debug__" : Str)) = false) (hd2 : (x == ("__classdict__" : Str)) = false) : PE X (.Call (.Name x p1) (e :: es) [] pos) (tCallD C X i ms) := by
  refine ⟨fun pins s σ H Q I h => ?_⟩
  obtain ⟨f, fn, fa, ht, F, hs, hm, h⟩ := h
  obtain ⟨fa', fd, ps, hnp, G, hm', hk, hb⟩ := F.ex
  have ef : fa' = fa := by rw [hm] at hm'; cases hm'; rfl
  subst ef
  refine wpAny_Call_Name_kw (thn ((pe_var (pos := p1) hN hv hd1 hd2).run pins s σ H (fun v H1 => v = .ref fa' ∧ H1 = H) I ⟨.ref fa', hs, rfl, rfl⟩) fun u s1 ⟨v, H1, I1, r1, q1⟩ => ?_)
  obtain ⟨rfl, rfl⟩ := q1
  cases r1
  refine PySem.W.callWith_K (h₀ := X.base) I.ok.mod.kin hk (thn (ha.run pos pins s1 σ _ _ I1 h) fun us s2 ⟨vs, H2, I2, r, hl, q⟩ => ⟨I2.kIn, ?_⟩) (star_of h1) (stars_of h2)
  exact run_fnSD (dvs := []) (E := WE C.W) G hr hb .nil (pass σ) I2 r (by rw [List.append_nil, hnp]; exact q)
/-- RULES[e], called -/
structure FnsOk (X : Cx) (T : Pr) (m : Nat) (a : Addr) (kfs : List (Str × Nat)) : Prop where
  all : ∀ q ∈ kfs, ∃ fn fa, T.tab q.2 = some fn ∧ CallOk X T m q.2 fn ∧ PySem.W.nsIn X.K a q.1 = some (some (.ref fa)) ∧ X.mg (T.name q.2) = some (.ref fa)
theorem pss_disp {i : Nat} {x y : Str} {d : Addr} {ks : List Str} {kfs : List (Str × Nat)} {e0 : Expr} {es : List Expr} {ms : Exs} {p0 p1 p2 p3 p4 pc pr : Pos} (hK : X.K = C.K) (D : DctOk X x ks d) (Fs : FnsOk X C.T C.m d kfs) (hg : Gl X x) (hdb : (x == ("__debug__" : Str)) = false) (hN : X.N.Nodup) (hi : X.N[i]? = some y) (hy : Loc X.env.scope y) (hf : X.fn y = true ∨ X.env.scope.names.lookup y = some .local)
    (ha : SE C X ma a) (hp : PlainIx a) (hr : Room (C.m + 4) X.A) (hv : Vis X.env.scope y) (pass : ∀ σ, PassesAt (L2.CX X.prog X.w) X σ (WE C.W σ)) (hes : PA X (e0 :: es) (tVs C ms)) (h1 : notStar e0 = true) (h2 : es.all notStar = true) (hd1 : (y == ("__debug__" : Str)) = false) (hd2 : (y == ("__classdict__" : Str)) = false) :
    PSs X [.Assign [.Name y p0] (.Subscript (.Name x p1) a p2) p3, .Return (some (.Call (.Name y p4) (e0 :: es) [] pc)) pr] (tS C (exSs C.k (.disp i x kfs ma ms))) := by
  obtain ⟨ees, n, kd, hk⟩ := D.ex
  have hn : PE X (.Name x p1) (tC (.ref d)) := pe_glob hg D.mg rfl hdb
  refine pss_imp (pss_cons (ps_asg (pe_ix (pos := p2) ix_kdict hn ha.p hp) (pg_name hN hi hy hf) rfl) (pss_one (ps_ret (pe_callD hr hi hv pass hes h1 h2 hd1 hd2)))) fun DD σ H ⟨G, ω, c, R, q⟩ => ?_
  refine ⟨G, ω, c, R, ?_⟩
  simp only [exSs] at q
  refine q.bind fun e c1 ω1 H1 yv s1 R1 q1 p1 => ?_
  cases e with
  | str s =>
    cases el : kfs.lookup s with
    | none => simp only [el] at p1; exact p1.elim
    | some f =>
      simp only [el] at p1
      obtain ⟨fn, fa, f1, f2, f3, f4⟩ := Fs.all _ (lookup_mem el)
      rw [q1.str]
      refine ⟨d, s, .ref fa, rfl, rfl, ⟨ees, n, _, kd.at_, kd.lit, f3, rfl⟩, ?_⟩
      by_cases hlt : i < c1.env.length
      case neg => rw [if_neg hlt] at p1; exact p1.elim
      rw [if_pos hlt] at p1
      rw [R1.len] at hlt
      refine ⟨f, fn, fa, f1, f2, by rw [List.getElem?_set_self hlt], f4, G, ω1, setS c1 i none, ?_, ?_⟩
      · refine ⟨R1.stp, fun j w e => ?_, by unfold setS; simp only [List.length_set]; exact R1.len, R1.okp⟩
        rcases getS_out e with ⟨e1, e2⟩ | ⟨ne, e2⟩
        · cases e2
        · exact (R1.slot j w e2).at (List.getElem?_set_ne (Ne.symm ne))
      · refine p1.bind fun ds c2 ω2 H2 vs s2 R2 q2 p2 => ?_
        cases er : C.k.f f ds with
        | none => rw [er] at p2; exact p2.elim
        | some r =>
          rw [er] at p2
          have hl := (dps_len q2).trans (callN_args f1 er)
          refine ⟨hl, hl, ω2, ds, R2.dom, hK ▸ q2, ?_⟩
          rw [show (callN C.T.tab C.m).f f ds = some r from er]
          cases r with
          | inl w => exact fun ω' H' v s' k' q' => p2 ω' _ H' v s'.same (R2.step s' (Nat.lt_succ_self _) k') (by
              cases w with
              | own ds => obtain ⟨a, vs, h1, h2, h3, h4⟩ := q'; exact ⟨a, vs, h1, h2, R2.old h3, hK ▸ h4⟩
              | _ => exact hK ▸ q')
          | inr x => exact fun ω' H' d s' k' q' => p2 ω' _ H' d s'.same (R2.step s' (Nat.lt_succ_self _) k') (hK ▸ q')
  | _ => exact p1.elim
end
end Rp
namespace Rp
open PySem PySem.Spec PyProof.Rows L2
/-! ### sorted(a dict of the module) -/
noncomputable def ltS (a b : Str) : Bool := ltCps a.cps.toList b.cps.toList
/-- strictly rising, and the order is one on these -/
noncomputable def riseB : List Str → Bool
  | [] => true
  | x :: r => r.all (fun y => ltS x y) && riseB r
noncomputable def transB (ks : List Str) : Bool := ks.all fun a => ks.all fun b => ks.all fun c => ltS b a || ltS c b || !ltS c a
theorem min_head {ks : List Str} (ht : transB ks = true) : ∀ (r : List Str) (x : Str), x ∈ ks → (∀ y ∈ r, y ∈ ks) → risingS x r = true → ∀ y ∈ r, ltS y x = false
  | [], x, _, _, _, y, hy => by cases hy
  | z :: r, x, hx, hr, h, y, hy => by
    simp only [risingS, Bool.and_eq_true, Bool.not_eq_true'] at h
    have hz := hr z List.mem_cons_self
    rcases List.mem_cons.mp hy with rfl | hy
    · exact h.1
    · have h1 := min_head ht r z hz (fun y hy => hr y (List.mem_cons_of_mem _ hy)) h.2 y hy
      have t1 := List.all_eq_true.mp (List.all_eq_true.mp (List.all_eq_true.mp ht x hx) z hz) y (hr y (List.mem_cons_of_mem _ hy))
      have h0 : ltS z x = false := h.1
      rw [h0, h1] at t1
      simpa using t1
theorem sorted_uniq {K : List Str} (ht : transB K = true) : ∀ (ks ys : List Str), (∀ y ∈ ks, y ∈ K) → riseB ks = true → ys.Perm ks → sortedS ys = true → ys = ks
  | [], ys, _, _, hp, _ => hp.eq_nil
  | k :: ks, ys, hK, hr, hp, hs => by
    cases ys with
    | nil => exact absurd hp.length_eq (by simp)
    | cons y ys =>
      simp only [riseB, Bool.and_eq_true] at hr
      have hyK : ∀ z ∈ y :: ys, z ∈ K := fun z hz => hK z (hp.mem_iff.mp hz)
      have e : y = k := by
        have hm := hp.mem_iff.mp (List.mem_cons_self (a := y) (l := ys))
        rcases List.mem_cons.mp hm with rfl | hm
        · rfl
        · have h1 := List.all_eq_true.mp hr.1 y hm
          have hk := hp.mem_iff.mpr (List.mem_cons_self (a := k) (l := ks))
          rcases List.mem_cons.mp hk with rfl | hk
          · rfl
          · have := min_head ht ys y (hyK y List.mem_cons_self) (fun z hz => hyK z (List.mem_cons_of_mem _ hz)) hs k hk
            rw [this] at h1
            cases h1
      subst e
      have hs' : sortedS ys = true := by
        cases ys with
        | nil => rfl
        | cons z r => simp only [sortedS, risingS, Bool.and_eq_true] at hs ⊢; exact hs.2
      rw [sorted_uniq ht ks ys (fun z hz => hK z (List.mem_cons_of_mem _ hz)) hr.2 (List.Perm.cons_inv hp) hs']
theorem pairs_of {prog : Program} {w : World} : ∀ {l : List DictEntry} {ks : List Str}, l.map He.keyOf = He.keysIn w.params ks → Pairs (PySem.strKind prog w) l (ks.zip (l.map (·.val)))
  | [], [], _ => .nil
  | [], _ :: _, h => by cases h
  | _ :: _, [], h => by cases h
  | e :: r, k :: ks, h => by
    have h1 : He.keyOf e :: r.map He.keyOf = some (k, PyData.keyHash w.params k) :: He.keysIn w.params ks := h
    injection h1 with h2 h3
    unfold He.keyOf at h2
    split at h2
    · rename_i x t q
      have h4 := Option.some.inj h2
      obtain ⟨h5, h6⟩ := Prod.mk.inj h4
      subst h5
      refine .cons ?_ rfl (pairs_of h3)
      rw [q]
      exact strKind_is prog w x t
    · cases h2
section
variable {C : C0} {X : Cx}
theorem call_sortedK {d : Addr} {x : Str} {ks : List Str} (D : DctOk X x ks d) (hnd : ks.Nodup) (h64 : ks.length < 64) (hcalm : X.calm = true) : CallR X (.builtin "sorted") (fun xs H Q => xs = [.ref d] ∧ ∀ ys p, ys.Perm ks → sortedS ys = true → H p = none → Q (.ref p) (upd H p (.lst (ys.map V.str)))) := by
  intro pins s σ H xs us Q I r q
  obtain ⟨ex, q⟩ := q
  subst ex
  obtain ⟨u, eu, rx⟩ := vals1 r
  subst eu
  cases rx
  obtain ⟨es, n, kd, hk⟩ := D.ex
  have lo := kd.low
  have hle : es.toList.length = ks.length := by
    have e := congrArg List.length hk
    simpa [He.keysIn] using e
  have hat : s.heap.DictAt (PySem.strKind X.prog X.w) d (ks.zip (es.toList.map (·.val))) n := by
    refine ⟨_, es, I.kIn _ _ kd.at_, ⟨rfl, rfl, rfl⟩, rfl, ?_, pairs_of hk, ?_⟩
    · intro e he
      obtain ⟨x, t, e1, e2⟩ := kd.lit.all e (Array.mem_toList_iff.mpr he)
      exact ⟨x, by rw [e1]; exact strKind_is X.prog X.w x t, e2⟩
    · rw [List.map_fst_zip (by rw [List.length_map, hle]; exact Nat.le_refl _)]; exact hnd
  have hl : (ks.zip (es.toList.map (·.val))).length = ks.length := by rw [List.length_zip, List.length_map, hle, Nat.min_self]
  have h16 : (ks.zip (es.toList.map (·.val))).length ≤ sizeLine := by rw [hl, sizeLine_eq]; omega
  refine Calls.call_function_entry PyProof.Rows.kind_sorted PyProof.Rows.plain_sorted PyProof.Rows.entry_sorted (PyProof.Rows.args_sorted1 _) ?_
  unfold Builtin.«sorted»
  refine wpAny_bind (m := checkCount "sorted" 1 1 _) (wpAny_pure ?_)
  refine wpAny_bind (PySem.W.kdu_collect (A := X.A.in1) (PySem.W.kdl_dict (knd := PySem.strKind X.prog X.w) (kvs := ks.zip (es.toList.map (·.val))) (ep := n) lo) (I.ok.hd hcalm) hat h16 fun h' tk acc hk2 hacc => ?_)
  have hal : acc.toList.length = ks.length := by rw [Array.length_toList, hacc.1, hl]
  have hS : StrsAre acc.toList ks := strs_at hal fun j v e => by
    obtain ⟨k, xx, e1, e2⟩ := hacc.2 j v (by rw [← Array.getElem?_toList]; exact e)
    have e3 : ks[j]? = some k := by
      have z := congrArg (Option.map Prod.fst) e1
      rw [← List.getElem?_map, List.map_fst_zip (by rw [List.length_map, hle]; exact Nat.le_refl _)] at z
      exact z
    obtain ⟨t, ev⟩ := Value.isStrOf_shape (x := k) (v := v) e2
    exact ⟨k, t, e3, ev⟩
  have I1 : Inv X pins σ H { s with heap := h', toks := tk } := I.kept hk2
  refine wpAny_bind (wpAny_newList ?_ (by rw [hal, sizeLine_eq]; omega))
  have hoL : (h'.push (seqObj "list" acc.toList.toArray 0)).get? h'.objs.size = some (seqObj "list" acc.toList.toArray 0) := Heap.get?_push_size _ rfl
  show wpAny _ _ _ _ _ { s with heap := h'.push (seqObj "list" acc.toList.toArray 0), toks := tk }
  refine wpAny_bind (wpAny_holding (wpAny_call_entry PyProof.Rows.slot_list_sort ⟨_, hoL, rfl⟩ PyProof.Rows.entry_list_sort
    (list_sort_treeK strKind_oneLt (s := { s with heap := h'.push (seqObj "list" acc.toList.toArray 0), toks := tk }) hoL hS.keysOf (fun v₁ v₂ rest e => keyKind_strs (by rw [← e]; exact hS)) (by rw [hal]; exact h64) fun st' hp hs => ⟨_, rfl, ?_⟩)
    (PyProof.Rows.args_list_sort _)))
  obtain ⟨ys, g1, g2, g3⟩ := sorted_out_str hS hp hs
  obtain ⟨e', he'⟩ := PyProof.Rows.sortedHeap_at (vs := acc.toList) (out := (arrOf st').map (·.2)) hoL
  have hlen : (ys.map V.str).length ≤ sizeLine := by
    rw [List.length_map, g2.length_eq]
    exact Nat.le_trans (Nat.le_of_lt h64) (by decide)
  refine wpAny_pure ⟨_, rfl, .ref h'.objs.size, upd H h'.objs.size (.lst (ys.map V.str)), I1.laid (t' := tk) (fun b u e => ?_) (Nat.le_refl _)
    (show ObjOk X.prog X.w _ _ _ (.lst (ys.map V.str)) from ⟨hlen, ((arrOf st').map (·.2)).toList, e', vals_of_strs g1, by rw [Array.toArray_toList]; exact he'⟩), rfl, q ys _ g2 g3 (I1.hok.fresh (Nat.le_refl _))⟩
  have hb : b < h'.objs.size := Heap.lt_size e
  rw [PyProof.Rows.sortedHeap_old (Nat.ne_of_lt hb) (by rw [size_push']; exact Nat.lt_succ_of_lt hb)]
  exact Heap.get?_push_of_some _ e
theorem strs_dq {K : PySem.W.Frag} {H : Hp} : ∀ {l : List Str}, (∀ s ∈ l, PyData.strOk s = true) → DqAll K H (l.map V.str) (l.map PyData.str)
  | [], _ => .nil
  | s :: l, h => .cons (.str s (h s List.mem_cons_self)) (strs_dq fun x hx => h x (List.mem_cons_of_mem _ hx))
theorem se_keysS {d : Addr} {x : Str} {ks ss : List Str} {p1 p2 pos : Pos} (hK : X.K = C.K) (D : DctOk X x ks d) (hg : Gl X x) (hdb : (x == ("__debug__" : Str)) = false) (hs : Gl X "sorted") (hm : X.mg "sorted" = none) (hc : X.calm = true) (hnd : ks.Nodup) (h64 : ks.length < 64) (hp : ks.Perm ss) (hr : riseB ss = true) (ht : transB ss = true) (hok : ∀ s ∈ ss, PyData.strOk s = true) :
    SE C X (.keysS x ss) (.Call (.Name "sorted" p1) [.Name x p2] [] pos) := by
  have hn : PE X (.Name x p2) (tC (.ref d)) := pe_glob hg D.mg rfl hdb
  have pa : PA X [.Name x p2] (tCons (tC (.ref d)) tNil) := pa_cons hn pa_nil rfl
  refine .of hK rfl (fun _ => rfl) (fun _ => rfl) (pe_imp (pe_callB (call_sortedK D hnd h64 hc) hs hm (by decide +kernel) pa (by decide) (by decide) rfl rfl) fun σ H Q ⟨G, ω, c, R, q⟩ => ?_)
  simp only [den, Den.of] at q
  refine ⟨rfl, fun ys p e1 e2 hp0 => ?_⟩
  have e := sorted_uniq ht ss ys (fun _ h => h) hr (e1.trans hp) e2
  subst e
  exact ret_own R hp0 (strs_dq hok) q
end
end Rp

/-! Rp, part C: comprehensions that an error may leave. -/
namespace PySem
open Sem (wp)
section
variable {M : Model} {A : Around} {E : Value → Shared → Prop} {s : Shared} {env : Env}
/-- behind a block: as it is without errors; an error goes on from the frame fr -/
noncomputable def cpost (M : Model) (A : Around) (E : Value → Shared → Prop) (use : Option (Value → Sem Unit)) (Q : Value → Shared → Prop) (acc : Value) (C : Addr) (fr : Option Addr) (r : Result) (t : Shared) : Prop := match r with
  | .ok f => compPost M A E use Q acc C (.ok f) t
  | .error x => ∃ m, t.heap.Ns C m ∧ ∀ g, Heap.SameBut C t.heap g → ∀ ce : Env, ce.frame = fr → wpAny M A (passOn "comprehension.variables-let-go" x ce : Sem Value) (fun _ _ => False) E { t with heap := g }
theorem wpAny_compX {e : Expr} {sc : Scope} {pos : Pos} {mk first : Sem Value} {g : Comprehension} {gs : List Comprehension} {cl : List (Str × Addr)} {use : Option (Value → Sem Unit)} {Q : Value → Shared → Prop}
    (hcl : clausesOf e = g :: gs) (hs : ∀ x, foldedSetIterable g.iter env x = pure x) (hclos : closureFor sc env = pure cl) (hkind : sc.kind = .function) (hnames : ∀ x ∈ sc.names, x.2 = .local → sc.names.lookup x.1 = some .local)
    (h : wpAny M A first (fun x t1 => wpAny M A (pyIter x) (fun it t2 => wpAny M A mk (fun acc t3 => wpAny M A (newFunctionEnv sc env.globals cl [] env.qual none .none (some env)) (fun ce t4 =>
        codeAny M A (.compStart e 0 it acc { ce with scope := relabel sc env }) (cpost M A E use Q acc ce.locals ce.frame) t4) E t3) E t2) E t1) E s) : wpAny M A (comprehension e sc env pos mk false first use) Q E s := by
  unfold comprehension
  rw [hclos, hcl]
  refine wpAny_bind (wpAny_mono h (fun x t1 h1 => wpAny_bind (wpAny_standAt (wpAny_bind (wpAny_of_eq (hs x) (wpAny_bind (wpAny_holding (wpAny_mono h1 (fun it t2 h2 =>
    wpAny_standIf (wpAny_bind (wpAny_mono h2 (fun acc t3 h3 => wpAny_bind (wpAny_pure (wpAny_bind (wpAny_mono h3 (fun ce t4 h4 => ?_) fun _ _ q => q)))) fun _ _ q => q))) fun _ _ q => q))))))) fun _ _ q => q)
  dsimp only
  have v1 : ∀ x ∈ (sc.names.filter fun x => (x.2 == .local || x.2 == .cell) && x.1 != (".0" : Str)).reverse, x.2 = .local → Env.kindOf { ce with scope := relabel sc env } x.1 = some .local := fun x hx hl =>
    lookup_relabel_local (hnames x (List.mem_filter.mp (List.mem_reverse.mp hx)).1 hl)
  have v2 : ∀ x ∈ (sc.names.filter fun x => (x.2 == .local || x.2 == .cell) && x.1 != (".0" : Str)).reverse.drop 1 ++ (sc.names.filter fun x => (x.2 == .local || x.2 == .cell) && x.1 != (".0" : Str)).reverse.take 1, x.2 = .local → Env.kindOf { ce with scope := relabel sc env } x.1 = some .local := fun x hx hl => by
    rcases List.mem_append.mp hx with q | q
    · exact v1 x (List.mem_of_mem_drop q) hl
    · exact v1 x (List.mem_of_mem_take q) hl
  refine wpAny_holding (wpAny_bind (wpAny_attempt (wpAny_holding (wpAny_run (codeAny_mono h4 fun r t hr => ?_)))))
  cases r with
  | ok f =>
    cases use with
    | none =>
      obtain ⟨m, hn, hr⟩ := hr
      exact wpAny_bind (wpAny_holding (wpAny_comp_letGo (cenv := { ce with scope := relabel sc env }) hkind _ t m v1 hn fun g' _ _ sb => wpAny_pure (hr g' sb)))
    | some u =>
      refine wpAny_bind (wpAny_rule (wpAny_bind (wpAny_holding (wpAny_mono hr (fun _ t' hq => ?_) fun _ _ q => q))))
      obtain ⟨m, hn, hq⟩ := hq
      exact wpAny_bind (wpAny_comp_letGo (cenv := { ce with scope := relabel sc env }) hkind _ t' m v2 hn fun g' _ _ sb => wpAny_pure (hq g' sb))
  | error x =>
    have hq : ∃ m, t.heap.Ns ce.locals m ∧ ∀ g, Heap.SameBut ce.locals t.heap g → ∀ ce' : Env, ce'.frame = ce.frame → wpAny M A (passOn "comprehension.variables-let-go" x ce' : Sem Value) (fun _ _ => False) E { t with heap := g } := hr
    obtain ⟨m, hn, hq⟩ := hq
    cases use <;> exact wpAny_bind (wpAny_holding (wpAny_comp_letGo (cenv := { ce with scope := relabel sc env }) hkind _ t m v1 hn fun g' _ _ sb => wpAny_mono (hq g' sb _ rfl) (fun _ _ z => z.elim) fun _ _ y => y))
end
end PySem
namespace Rp
open PySem PySem.Spec PyProof.Rows L2
/-- what leaves a block: a callee's error -/
noncomputable def XBk (Y : Cx) (E : XK) : Value → Shared → Prop := fun u t => ∃ pins σ H s, Inv Y pins σ H s ∧ L2.CX Y.prog Y.w Y.stack H s E u t
noncomputable abbrev blx (X : Cx) (s : Shared) (H : Hp) (sc : Scope) (ce : Env) (fp : List Addr) (E : XK) : Cx := { X.blk s H sc ce fp with xe := XBk (X.blk s H sc ce fp) E }
theorem ok_xe {X : Cx} {z : Value → Shared → Prop} (ok : X.Ok) : ({ X with xe := z } : Cx).Ok :=
  ⟨ok.mod, ok.kind, ok.glob, ok.blt, ok.above, ok.inj, ok.has, ok.cab, ok.hd, ok.frames, ok.stk, ok.exf, ok.bs, ok.bsz, ok.noex, ok.exfs, ok.funs, ok.frf⟩
theorem inv_xe {X : Cx} {z : Value → Shared → Prop} {pins : List (Addr × Obj)} {σ : L2.St} {H : Hp} {s : Shared} (I : Inv X pins σ H s) : Inv { X with xe := z } pins σ H s :=
  ⟨ok_xe I.ok, I.os, I.bare, I.base, I.loc, I.cell, I.free, I.freeC, I.pin, I.hok, I.len⟩
theorem blx_back {X : Cx} {b : Shared} {Hb : Hp} {sc : Scope} {ce : Env} {fp : List Addr} {E : XK} {pins : List (Addr × Obj)} {σ : L2.St} {H : Hp} {s : Shared} (I : Inv (blx X b Hb sc ce fp E) pins σ H s) : Inv (X.blk b Hb sc ce fp) pins σ H s :=
  inv_xe (X := blx X b Hb sc ce fp E) (z := fun _ _ => False) I
theorem blx_of {X : Cx} {b : Shared} {Hb : Hp} {sc : Scope} {ce : Env} {fp : List Addr} {E : XK} {pins : List (Addr × Obj)} {σ : L2.St} {H : Hp} {s : Shared} (I : Inv (X.blk b Hb sc ce fp) pins σ H s) : Inv (blx X b Hb sc ce fp E) pins σ H s :=
  inv_xe (X := X.blk b Hb sc ce fp) I
theorem pass_blx {X : Cx} {b : Shared} {Hb : Hp} {sc : Scope} {ce : Env} {fp : List Addr} {E : XK} {σ : L2.St} : PassesAt (L2.CX X.prog X.w) (blx X b Hb sc ce fp E) σ E := fun pins H s e t I c => ⟨pins, σ, H, s, blx_back I, c⟩
theorem fun_but {h h' B B' : Heap} : ∀ {l : List Env}, h.FunFrames B l → (∀ L ∈ frs l, h'.get? L = h.get? L ∧ (B.get? L = none → B'.get? L = none)) → h'.FunFrames B' l
  | [], _, _ => trivial
  | env :: l, ⟨k, ⟨L, o, hf, hn, ho, hd⟩, r⟩, q => by
    have hL := q L (List.mem_filterMap.mpr ⟨env, List.mem_cons_self, hf⟩)
    refine ⟨k, ⟨L, o, hf, hL.2 hn, hL.1.trans ho, hd⟩, fun_but r fun b hb => q b ?_⟩
    obtain ⟨e, he, z⟩ := List.mem_filterMap.mp hb
    exact List.mem_filterMap.mpr ⟨e, List.mem_cons_of_mem _ he, z⟩
section
variable {X : Cx}
theorem note_eq {e : Value} {c d : Env} (h : c.frame = d.frame) : noteFrame e c = noteFrame e d := by
  unfold noteFrame PySem.frameOf
  rw [h]
/-- a callee's error leaves the block: noted, its names let go, it goes on in the def -/
theorem bk_noted {W : WX} {sc : Scope} {ce : Env} {fp : List Addr} {C : Addr} {s3 s5 : Shared} {H3 : Hp} {σ : L2.St} {pins : List (Addr × Obj)} {u : Value} {use : Option (Value → Sem Unit)} {Qf : Value → Shared → Prop} {acc : Value} (hst : X.stack = X.env :: X.outer) (hfr : X.env.frame = some X.env.locals) (tk : Takes X W)
    (I3 : Inv X pins σ H3 s3) (hf : ∀ b ∈ fp, FpOk X pins H3 b ∧ b < s3.heap.objs.size) (cL : ce.locals = C) (hC : C = s3.heap.objs.size) (cF : ce.frame = X.env.frame) (x : XBk (X.blk s3 H3 sc ce fp) (fun cls d H => W cls d σ H) u s5) :
    notedBy (model X.prog X.w) X.A ce (fun e t => cpost (model X.prog X.w) X.A X.xe use Qf acc C ce.frame (.error e) t) u s5 := by
  obtain ⟨p2, σ2, H2, s2, I2, c⟩ := x
  have xe := XE.of_call (W := fun cls d _ H => W cls d σ H) I2 (fun _ _ _ z => z) c
  obtain ⟨a0, B0, H0, cls0, d0, eu, fl0, _⟩ := c
  obtain ⟨a, B, sI, pI, σI, H', cls, d, rfl, II, nb, up, sky, na, os, ag, w⟩ := xe
  injection eu with eu
  subst eu
  obtain ⟨_, _, _, oe0, vs0, T0, oT0, ts0, g1, _, g2, g3, _, _, g4, g5, g6⟩ := fl0
  have fl : HandSPX.FlyingZ B X.stack a (Zc cls d) s5.heap := by
    rcases sky with ⟨_, _, _, oe, vs, e1, _, e2, e3⟩ | fl | ⟨_, _, _, oe, vs, T, oT, ts, e1, _, e2, e3, _, _, e4, e5, e6⟩
    · rw [g1] at e1; cases e1
      rw [g2] at e2; cases e2
      rw [g3] at e3; cases e3
    · exact fl
    · rw [g1] at e1; cases e1
      rw [g2] at e2; cases e2
      rw [g3] at e3; cases e3
      rw [g4] at e4; cases e4
      rw [g5] at e5; cases e5
      rw [g6] at e6; cases e6
  have J : Inv X pins σ H' sI := I3.call' (ch := fp) II.os II.base II.hok II.bare fun b hb => ⟨(hf b hb).1.2.2.2.1, (hf b hb).1.2.1, (hf b hb).1.2.2.2.2.1, (hf b hb).1.2.2.2.2.2⟩
  have nC : H' C = none := by
    have z : H' ce.locals = none := II.free
    rw [cL] at z
    exact z
  have fC : FpOk X pins H' C := I3.fpOk (Nat.le_of_eq hC.symm) nC
  obtain ⟨f0, f1, f2, f3, f4, f5⟩ := fC
  have nS : ∀ L ∈ frs X.stack, L ≠ C := fun L hL z => by
    rw [hst] at hL
    unfold frs at hL
    rw [List.filterMap_cons, hfr] at hL
    rcases List.mem_cons.mp hL with e | e
    · exact f1 (by rw [← z, e])
    · exact f2 (by rw [← z]; exact e)
  obtain ⟨m, hn, _⟩ := II.loc
  have hn : sI.heap.Ns ce.locals m := hn
  rw [cL] at hn
  obtain ⟨oc, es, ep, hoc, hdc, hk, hm⟩ := hn
  have bC : B.get? C = some oc := nb C oc hoc fun z => nS C z rfl
  have hfrs : X.A.frames = some (X.env :: X.outer) := by rw [I3.ok.frames, hst]
  rw [hst] at fl
  unfold notedBy
  rw [note_eq cF]
  refine HandSPX.looks_onZ Zc.steady hfrs hfr fl fun h1 held up1 => ?_
  obtain ⟨k1, k2, k3, oe, vs, T, oT, ts, t1, t2, t3, t4, t5, t6, t7, t8, t9⟩ := held
  have h1C : h1.get? C = some oc := k1 C oc bC
  refine ⟨m, ⟨oc, es, ep, h1C, hdc, hk, hm⟩, fun g sb ce' ef => ?_⟩
  have aC : a ≠ C := fun z => by rw [z, h1C] at t1; cases t1; rw [hdc] at t3; cases t3
  have TC : T ≠ C := fun z => by rw [z, h1C] at t7; cases t7; rw [hdc] at t8; cases t8
  have bN : ∀ b, B.get? b = none → (PySem.W.hideAll B [C]).get? b = none := fun b e => by
    cases q : (PySem.W.hideAll B [C]).get? b with
    | none => rfl
    | some o =>
      have z := PySem.W.of_hideAll _ q
      rw [e] at z; cases z
  have notC : ∀ {h : Heap} {b : Addr} {o : Obj}, (PySem.W.hideAll h [C]).get? b = some o → b ≠ C ∧ h.get? b = some o := fun {h b o} e => by
    refine ⟨fun z => ?_, PySem.W.of_hideAll _ e⟩
    rw [PySem.W.hideAll_none [C] (by rw [z]; exact List.mem_singleton.mpr rfl)] at e
    cases e
  have heldG : HandSPX.HeldZ (PySem.W.hideAll B [C]) (X.env :: X.outer) a (Zc cls d) X.env.locals g := by
    refine ⟨fun b o e => ?_, bN a k2, fun_but k3 fun L hL => ⟨sb.2 L (nS L (by rw [hst]; exact hL)), bN L⟩, oe, vs, T, oT, ts, (sb.2 a aC).trans t1, t2, t3, t4, bN T t5, t6, (sb.2 T TC).trans t7, t8, t9⟩
    obtain ⟨e1, e2⟩ := notC e
    exact (sb.2 b e1).trans (k1 b o e2)
  have t1' := (sb.2 a aC).trans t1
  have J' : Inv X pins σ H' { sI with heap := PySem.W.hideAll sI.heap [C], toks := sI.toks } := J.turned (it := C) (fun b o hb e => PySem.W.hideAll_get _ e (by simpa using hb)) f0 f1 f3 f4 f5
  unfold PySem.passOn
  refine wpAny_bind (wpAny_field t1' t3 t4 ?_)
  have go : wpAny (model X.prog X.w) X.A (setFlight (.ref a) (some X.env.locals)) (fun _ t => wpAny (model X.prog X.w) X.A (throw (.ref a) : Sem Value) (fun _ _ => False) X.xe t) X.xe { s5 with heap := g } := by
    refine HandSPX.setFlight_onZ heldG fun h2 hh up2 => wpAny_throw (tk _ _ ?_)
    refine ⟨a, PySem.W.hideAll B [C], _, pins, σ, H', cls, d, rfl, J', fun b o e hb => ?_, fun b o e hd => ?_, .inr (.inr (by rw [hst]; exact hh)), na, os, ag, w⟩
    · obtain ⟨e1, e2⟩ := notC e
      exact PySem.W.hideAll_get _ (nb b o e2 hb) (by simpa using e1)
    · obtain ⟨e1, e2⟩ := notC e
      obtain ⟨sl1, q1⟩ := up b o e2 hd
      obtain ⟨sl2, q2⟩ := up1 b _ q1 hd
      have q3 := (sb.2 b e1).trans q2
      obtain ⟨sl3, q4⟩ := up2 b _ q3 hd
      exact ⟨sl3, q4⟩
  rw [ef, cF, hfr, if_neg (show ¬ ((Value.ref T == Value.none) = true) from by simp)]
  first
    | exact wpAny_bind (wpAny_pure (wpAny_bind go))
    | exact wpAny_bind go
/-- a comprehension whose steps may let a callee's error out; te, tt read at the def's slots -/
theorem lcX_core {W : WX} {pins : List (Addr × Obj)} {s : Shared} {σ : L2.St} {H : Hp} {Q : VK} {elt tg iter : Expr} {ifs : List Expr} {sc : Scope} {own : List (Str × Nat)} {pos pos' : Pos} {wi : TI} {g : TG} {tt : TT} {te : TE} {use : Option (Value → Sem Unit)} {Qf : Value → Shared → Prop}
    (hst : X.stack = X.env :: X.outer) (hfr : X.env.frame = some X.env.locals) (tk : Takes X W) (hc : X.calm = true) (hN : X.N.Nodup) (I : Inv X pins σ H s) (hi : PI X tg iter wi) (ok : BlkOk X.N X.env.scope sc own)
    (hb : ∀ (s : Shared) (H : Hp) (C : Addr) (cl : List (Str × Addr)) (fp : List Addr), PG (blx X s H sc (compEnvC sc cl C X.env) fp fun cls d H => W cls d σ H) tg g ∧ PTs (blx X s H sc (compEnvC sc cl C X.env) fp fun cls d H => W cls d σ H) ifs tt ∧ PE (blx X s H sc (compEnvC sc cl C X.env) fp fun cls d H => W cls d σ H) elt te)
    (hs : ∀ x, foldedSetIterable iter X.env x = pure x) (h : tLc wi g tt te (own.map (·.2)) σ H Q)
    (hR : ∀ D C t m H', Inv X pins σ H' t → Q (.ref D) H' → t.heap.Ns C m → FpOk X pins H' C → compPost (model X.prog X.w) X.A X.xe use Qf (.ref D) C (.ok .next) t) :
    wpAny (model X.prog X.w) X.A (comprehension (.ListComp elt [⟨tg, iter, ifs, 0⟩] sc pos) sc X.env pos' (newList []) false (eval iter X.env) use) Qf X.xe s := by
  have hfree : ∀ y ∈ sc.names, y.2 = .free → ∃ c, X.env.cells.lookup y.1 = some c := fun y hy e => (ok.free y hy e).elim (fun k => I.ok.has _ (.inl k)) fun k => I.ok.has _ (.inr k)
  refine wpAny_compX (use := use) rfl hs (closure_ok hfree) ok.kind (fun y hy e => by rw [ok.uniq y hy, e]) (thn (hi.run pins s σ H _ I h) fun xv t1 hx => thn hx fun itv t2 h2 => ?_)
  obtain ⟨it, fp, tn, J, H2, e, I2, T, st2, f2, q⟩ := h2
  subst e
  refine wpAny_newObj_type (newEnv_comp ?_) (by show 0 ≤ sizeLine; decide)
  generalize eD : t2.heap.objs.size = D
  have hDn : H2 D = none := I2.hok.fresh (Nat.le_of_eq eD)
  obtain ⟨V, ⟨m0, w0⟩, turn⟩ := q D hDn
  generalize et3 : ({ t2 with heap := t2.heap.push { cls := .type "list", data := .seq ([] : List Value).toArray } } : Shared) = t3
  have I3 : Inv X pins σ (upd H2 D (.lst [])) t3 := by
    subst et3
    exact I2.laid (t' := t2.toks) (fun b o e => Heap.get?_push_of_some _ e) (Nat.le_of_eq eD) ⟨Nat.zero_le _, [], 0, .nil, by rw [← eD]; exact Heap.get?_push_size _ rfl⟩
  have h3 : t3.heap = t2.heap.push { cls := .type "list", data := .seq ([] : List Value).toArray } := by subst et3; rfl
  have f3 : ∀ b ∈ fp, FpOk X pins (upd H2 D (.lst [])) b ∧ b < t3.heap.objs.size := fun b hb => by
    obtain ⟨o, e, _⟩ := T.obj _ _ st2 b hb
    have hlt := Heap.lt_size e
    refine ⟨⟨?_, (f2 b hb).2⟩, by rw [h3, Heap.size_push]; exact Nat.lt_succ_of_lt hlt⟩
    rw [upd_ne (by rw [← eD]; exact Nat.ne_of_lt hlt)]
    exact (f2 b hb).1
  have st3 : tn 0 t3.heap := T.keep _ _ _ st2 fun b _ o e => by rw [h3]; exact Heap.get?_push_of_some _ e
  have I4 := block_start I3 ok hN f3
  obtain ⟨pg, pt, pe⟩ := hb t3 (upd H2 D (.lst [])) t3.heap.objs.size (cellsFrom (t3.heap.objs.size + 1) sc.names (cloFrom X.env.cells sc.names [])) fp
  show codeAny _ _ (.compStart (.ListComp elt [⟨tg, iter, ifs, 0⟩] sc pos) 0 (.ref it) (.ref D) (compEnvC sc (cellsFrom (t3.heap.objs.size + 1) sc.names (cloFrom X.env.cells sc.names [])) t3.heap.objs.size X.env)) (cpost (model X.prog X.w) X.A X.xe use Qf (.ref D) t3.heap.objs.size X.env.frame) { t3 with heap := pushCells (t3.heap.push { cls := .type "dict", data := .dict #[] }) sc.names }
  have nfp : ∀ b ∈ fp, (upd H2 D (.lst [])) b = none := fun b hb => (f3 b hb).1.1
  generalize ece : compEnvC sc (cellsFrom (t3.heap.objs.size + 1) sc.names (cloFrom X.env.cells sc.names [])) t3.heap.objs.size X.env = ce at I4 pg pt pe ⊢
  have cL : ce.locals = t3.heap.objs.size := by subst ece; rfl
  have cF : ce.frame = X.env.frame := by subst ece; rfl
  generalize eH3 : upd H2 D (.lst []) = H3 at I3 I4 pg pt pe w0 nfp f3
  generalize et4 : ({ t3 with heap := pushCells (t3.heap.push { cls := .type "dict", data := .dict #[] }) sc.names } : Shared) = t4 at I4 ⊢
  have st4 : tn 0 t4.heap := T.keep _ _ _ st3 fun b _ o e => by subst et4; exact pushCells_keeps _ _ _ _ (Heap.get?_push_of_some _ e)
  generalize eY : (blx X t3 H3 sc ce fp fun cls d H => W cls d σ H) = Y at pg pt pe
  have toY : ∀ {p : List (Addr × Obj)} {σ' : L2.St} {H' : Hp} {t : Shared}, Inv (X.blk t3 H3 sc ce fp) p σ' H' t → Inv Y p σ' H' t := fun z => by subst eY; exact blx_of z
  have ofY : ∀ {p : List (Addr × Obj)} {σ' : L2.St} {H' : Hp} {t : Shared}, Inv Y p σ' H' t → Inv (X.blk t3 H3 sc ce fp) p σ' H' t := fun z => by subst eY; exact blx_back z
  have eP : Y.prog = X.prog := by subst eY; rfl
  have eW : Y.w = X.w := by subst eY; rfl
  have eA : Y.A = X.A := by subst eY; rfl
  have eE : Y.env = ce := by subst eY; rfl
  have out : ∀ e t, Y.xe e t → notedBy (model X.prog X.w) X.A ce (fun e t => cpost (model X.prog X.w) X.A X.xe use Qf (.ref D) t3.heap.objs.size X.env.frame (.error e) t) e t := fun e t z => by
    subst eY
    have := bk_noted (use := use) (Qf := Qf) (acc := .ref D) hst hfr tk I3 f3 cL rfl cF z
    rw [cF] at this
    exact this
  have stat : ∀ {σ' : L2.St} {H' : Hp} {t : Shared}, Inv (X.blk t3 H3 sc ce fp) [] σ' H' t → (∀ b ∈ fp, H' b = none) → ∀ b ∈ fp, FpOk (X.blk t3 H3 sc ce fp) [] H' b := fun {σ' H' t} z hn b hb =>
    ⟨hn b hb, (z.ok.exf b hb).1, z.ok.exfs b hb, .inl hb, fun x c e => (z.ok.exf b hb).2 x c e, fun p hp => absurd (show p ∈ ([] : List (Addr × Obj)) ++ [] from hp) (by simp)⟩
  have loop : codeAny (model X.prog X.w) X.A (.compLoop (.ListComp elt [⟨tg, iter, ifs, 0⟩] sc pos) 0 (.ref it) (.ref D) ce) (cpost (model X.prog X.w) X.A X.xe use Qf (.ref D) t3.heap.objs.size X.env.frame) t4 := by
    refine compLoop_any (fun n t => ∃ i H', Inv (X.blk t3 H3 sc ce fp) [] (wipe σ (own.map (·.2))) H' t ∧ tn i t.heap ∧ (∀ b ∈ fp, H' b = none) ∧ V i n H') ?_ m0 ⟨0, H3, I4, st4, nfp, w0⟩
    rintro n t5 ⟨i, H5, I5, st5, n5, w5⟩
    rcases turn i n H5 w5 with ⟨stop, qq⟩ | ⟨go, Nx, hNx, step⟩
    · have td := T.done (X.blk t3 H3 sc ce fp) rfl rfl rfl hc i [] t5 _ H5 (fun _ _ => False) I5 (stat I5 n5) st5 stop
      refine thnF td fun r t6 ⟨hr, I6⟩ => ?_
      subst hr
      have I7 : Inv X pins σ H5 t6 := I3.call' (ch := fp) I6.os I6.base I6.hok I6.bare fun b hb => ⟨(f3 b hb).1.2.2.2.1, (f3 b hb).1.2.1, (f3 b hb).1.2.2.2.2.1, (f3 b hb).1.2.2.2.2.2⟩
      have nC : H5 ce.locals = none := I6.free
      obtain ⟨m, hn, _⟩ := I6.loc
      have hn : t6.heap.Ns ce.locals m := hn
      rw [cL] at hn nC
      exact hR D t3.heap.objs.size t6 m H5 I7 qq hn (I3.fpOk (Nat.le_refl _) nC)
    · have ti := T.item (X.blk t3 H3 sc ce fp) rfl rfl rfl hc i [] t5 _ H5 (fun _ _ => False) I5 (stat I5 n5) st5 go
      refine thnF ti fun r t6 ⟨u, hr, h6⟩ => ?_
      subst hr
      refine thnF h6 fun _ t7 ⟨x, H7, I7, r7, y7, st7, n7⟩ => ?_
      have I7' := I7.pinned (stat I7 n7) (T.obj _ _ st7)
      have r1 := pg.run _ t7 _ H7 x u _ (toY I7') r7 (step x H7 y7)
      rw [eP, eW, eA, eE] at r1
      refine wpAny_mono r1 (fun _ t8 h8 => ?_) out
      obtain ⟨σ8, H8, I8, hw8, q8⟩ := h8
      have r2 := pt.run _ t8 σ8 H8 _ I8 q8
      rw [eP, eW, eA, eE] at r2
      refine wpAny_mono r2 (fun b t9 h9 => ?_) out
      obtain ⟨H9, I9, q9⟩ := h9
      have fin : ∀ {t : Shared} {H' : Hp}, Inv Y ([] ++ pinsAt fp t7.heap) σ8 H' t → Nx H' → ∃ m, m < n ∧ ∃ i H', Inv (X.blk t3 H3 sc ce fp) [] (wipe σ (own.map (·.2))) H' t ∧ tn i t.heap ∧ (∀ b ∈ fp, H' b = none) ∧ V i m H' := fun {t H'} z nx => by
        have z := ofY z
        obtain ⟨m', hm, w'⟩ := hNx H' nx
        have pin' : ∀ b ∈ fp, ∀ o, t7.heap.get? b = some o → t.heap.get? b = some o ∧ H' b = none := fun b hb o e =>
          let y := z.pin (b, o) (List.mem_append_right _ (List.mem_append_right _ (mem_pinsAt hb e)))
          ⟨y.1, y.2.1⟩
        have hl : (wipe σ (own.map (·.2))).length = σ8.length := by rw [← hw8, wipe_length]
        refine ⟨m', hm, i + 1, H', (z.unpinned (pins := [])).weak hl (fun j v e => ?_), T.keep _ _ _ st7 fun b hb o e => (pin' b hb o e).1, fun b hb => ?_, w'⟩
        · rw [← hw8] at e
          exact (wipe_some e).1
        · obtain ⟨o, e, _⟩ := T.obj _ _ st7 b hb
          exact (pin' b hb o e).2
      cases b with
      | false =>
        simp only [Bool.false_eq_true, if_false] at q9 ⊢
        exact fin I9 q9
      | true =>
        simp only [if_true] at q9 ⊢
        have r3 := pe.run _ t9 σ8 H9 _ I9 q9
        rw [eP, eW, eA, eE] at r3
        refine wpAny_mono r3 (fun z t10 h10 => ?_) out
        obtain ⟨yv, H10, I10, r10, acc, hD10, hz10, nx⟩ := h10
        exact app_ok (X := X.blk t3 H3 sc ce fp) (ofY I10) hD10 hz10 r10 fun t11 I11 => fin (toY I11) nx
  exact codeAny_compStart_list loop (T.self X.A 0 _ _ _ st4 loop)
/-- as a value -/
theorem pe_lcX {W : WX} {elt tg iter : Expr} {ifs : List Expr} {sc : Scope} {own : List (Str × Nat)} {pos : Pos} {wi : TI} {g : TG} {tt : L2.St → TT} {te : L2.St → TE} (hst : X.stack = X.env :: X.outer) (hfr : X.env.frame = some X.env.locals) (tk : Takes X W) (hc : X.calm = true) (hN : X.N.Nodup) (hi : PI X tg iter wi) (ok : BlkOk X.N X.env.scope sc own)
    (hb : ∀ (σ : L2.St) (s : Shared) (H : Hp) (C : Addr) (cl : List (Str × Addr)) (fp : List Addr), PG (blx X s H sc (compEnvC sc cl C X.env) fp fun cls d H => W cls d σ H) tg g ∧ PTs (blx X s H sc (compEnvC sc cl C X.env) fp fun cls d H => W cls d σ H) ifs (tt σ) ∧ PE (blx X s H sc (compEnvC sc cl C X.env) fp fun cls d H => W cls d σ H) elt (te σ))
    (hs : ∀ x, foldedSetIterable iter X.env x = pure x) : PE X (.ListComp elt [⟨tg, iter, ifs, 0⟩] sc pos) (fun σ H Q => tLc wi g (tt σ) (te σ) (own.map (·.2)) σ H Q) := by
  refine ⟨fun pins s σ H Q I h => ?_⟩
  rw [eval_ListComp]
  refine lcX_core hst hfr tk hc hN I hi ok (hb σ) hs h fun D C t m H' I' q hn f => ⟨m, hn, fun g' sb => ?_⟩
  obtain ⟨f0, f1, f2, f3, f4, f5⟩ := f
  exact ⟨.ref D, H', I'.turned (t' := t.toks) (fun b o hb e => (sb.2 b hb).trans e) f0 f1 f3 f4 f5, rfl, q⟩
end
section
variable {C : C0} {X : Cx}
theorem se_compX {elt it tge : Expr} {ifs : List Expr} {scope : Scope} {own : List (Str × Nat)} {pos : Pos} {me : Ex} {tg : List Nat} {ik : ItK} {ms mc : Exs} (hK : X.K = C.K) (hst : X.stack = X.env :: X.outer) (hfr : X.env.frame = some X.env.locals) (tk : Takes X C.W) (hc : X.calm = true) (hN : X.N.Nodup)
    (ho : own.map (·.2) = tg) (ok : BlkOk X.N X.env.scope scope own) (hi : PI X tge it (tI C ik ms)) (hs : ∀ x, foldedSetIterable it X.env x = pure x)
    (hb : ∀ (σ : L2.St) (s : Shared) (H : Hp) (D : Addr) (cl : List (Str × Addr)) (fp : List Addr), STg (blx X s H scope (compEnvC scope cl D X.env) fp fun cls d H => true = true ∧ C.W cls d σ H) tg tge ∧ PTs (blx X s H scope (compEnvC scope cl D X.env) fp fun cls d H => true = true ∧ C.W cls d σ H) ifs (tG (C.bk true σ) (denTs C.k mc) rT) ∧ SE (C.bk true σ) (blx X s H scope (compEnvC scope cl D X.env) fp fun cls d H => true = true ∧ C.W cls d σ H) me elt) :
    SE C X (.compX me tg ik ms mc) (.ListComp elt [⟨tge, it, ifs, 0⟩] scope pos) := by
  have tk2 : Takes X (fun cls d σ H => true = true ∧ C.W cls d σ H) := tk.imp fun _ _ _ _ z => z.2
  have base := pe_lcX (pos := pos) (g := gD X.K tg) (tt := fun σ => tG (C.bk true σ) (denTs C.k mc) rT) (te := fun σ => tV (C.bk true σ) me) hst hfr tk2 hc hN hi ok (fun σ s H D cl fp => ⟨STg.pg (X := blx X s H scope (compEnvC scope cl D X.env) fp _) hc (hb σ s H D cl fp).1, (hb σ s H D cl fp).2.1, (hb σ s H D cl fp).2.2.v⟩) hs
  rw [ho, hK] at base
  exact .of hK rfl (fun _ => rfl) (fun _ => rfl) (pe_imp base fun σ H Q h => comp_readX h)
end
end Rp

/-! Rp, part O: objects: fields. -/
namespace Rp
open PySem PySem.Spec PyProof.Rows L2

/-- what the text says of known classes -/
structure KnOk (K : PySem.W.Frag) (oc : OC) : Prop where
  cls : ∀ c fs, oc.kn c fs → Cls K (oc.at_ c)
  no : ∀ c fs, oc.kn c fs → ∀ f ∈ fs, NoAttr K (oc.at_ c) f
  few : ∀ c fs, oc.kn c fs → fs.length < 1000
section
variable {K : PySem.W.Frag} {ω ω' : Om} {H H' : Hp} {a : Addr}
theorem FldOk.names {k : Nat} {fs : List (Str × V)} {ws : List (Str × FW)} (h : FldOk K ω H a k fs ws) : fs.map (·.1) = ws.map (·.1) := by
  induction h with
  | nil => rfl
  | cons _ _ ih => rw [List.map_cons, List.map_cons, ih]
theorem FldOk.none {k : Nat} {fs : List (Str × V)} {ws : List (Str × FW)} {f : Str} (h : FldOk K ω H a k fs ws) (e : ws.lookup f = .none) : fs.lookup f = .none := by
  induction h with
  | nil => rfl
  | @cons k g v w r r' _ _ ih =>
    rw [List.lookup_cons] at e ⊢
    cases q : f == g with
    | true => rw [q] at e; cases e
    | false => rw [q] at e; exact ih e
theorem FldOk.some {k : Nat} {fs : List (Str × V)} {ws : List (Str × FW)} {f : Str} {w : FW} (h : FldOk K ω H a k fs ws) (e : ws.lookup f = .some w) : ∃ v j, k ≤ j ∧ fs.lookup f = .some v ∧ FOk K ω H a j v w := by
  induction h with
  | nil => cases e
  | @cons k g v w' r r' h1 _ ih =>
    rw [List.lookup_cons] at e
    cases q : f == g with
    | true => rw [q] at e; cases e; exact ⟨v, k, Nat.le_refl _, by rw [List.lookup_cons, q], h1⟩
    | false =>
      rw [q] at e
      obtain ⟨v', j, hj, e1, e2⟩ := ih e
      exact ⟨v', j, by omega, by rw [List.lookup_cons, q]; exact e1, e2⟩
theorem look_name {ws : List (Str × FW)} {f : Str} {w : FW} (e : ws.lookup f = .some w) : f ∈ ws.map (·.1) := by
  induction ws with
  | nil => cases e
  | cons p r ih =>
    obtain ⟨g, x⟩ := p
    rw [List.lookup_cons] at e
    cases q : f == g with
    | true => rw [beq_iff_eq.mp q]; exact List.mem_cons_self
    | false => rw [q] at e; exact List.mem_cons_of_mem _ (ih e)
theorem putW_names {f : Str} {w : FW} : ∀ (ws : List (Str × FW)), (putW f w ws).map (·.1) = ws.map (·.1)
  | [] => rfl
  | (g, x) :: r => by
    unfold putW
    split
    · rfl
    · rw [List.map_cons, List.map_cons, putW_names r]
theorem FldOk.putV {k : Nat} {fs : List (Str × V)} {ws : List (Str × FW)} {f : Str} {v : V} {d : D} (h : FldOk K ω H a k fs ws) (e : f ∈ ws.map (·.1)) (q : Dq K (hide H ω) v d) : FldOk K ω H a k (putF f v fs) (putW f (.val d) ws) := by
  induction h with
  | nil => simp at e
  | @cons k g x w r r' h1 h2 ih =>
    rw [show putF f v ((g, x) :: r) = (if g = f then (g, v) :: r else (g, x) :: putF f v r) from rfl, show putW f (.val d) ((g, w) :: r') = (if g = f then (g, .val d) :: r' else (g, w) :: putW f (.val d) r') from rfl]
    by_cases z : g = f
    · rw [if_pos z, if_pos z]; exact .cons q h2
    · rw [if_neg z, if_neg z]
      refine .cons h1 (ih ?_)
      rw [List.map_cons] at e
      rcases List.mem_cons.mp e with e | e
      · exact absurd e.symm z
      · exact e
/-- a list of one field is changed: the others stay -/
theorem FldOk.other {k j : Nat} {fs : List (Str × V)} {ws : List (Str × FW)} {b : Addr} {o : HO} (h : FldOk K ω H a k fs ws) (hb : ω b = .some (.obj a j)) (hj : j < k) : FldOk K ω (upd H b o) a k fs ws := by
  have hh : hide (upd H b o) ω = hide H ω := hide_upd hb
  induction h with
  | nil => exact .nil
  | @cons k g x w r r' h1 h2 ih =>
    refine .cons ?_ (ih (by omega))
    cases w with
    | opq => trivial
    | val d => show Dq K (hide (upd H b o) ω) x d; rw [hh]; exact h1
    | own ds =>
      obtain ⟨b', vs, e, o', h3, q⟩ := h1
      refine ⟨b', vs, e, o', ?_, by rw [hh]; exact q⟩
      rw [upd_ne (fun z => ?_)]
      · exact h3
      · rw [z, hb] at o'
        injection o' with o'
        injection o' with _ o'
        omega
theorem FldOk.putL {k : Nat} {fs : List (Str × V)} {ws : List (Str × FW)} {f : Str} {ds : List D} (h : FldOk K ω H a k fs ws) (e : ws.lookup f = .some (.own ds)) : ∃ b vs j, k ≤ j ∧ fs.lookup f = .some (.ref b) ∧ ω b = .some (.obj a j) ∧ H b = .some (.lst vs) ∧ DqAll K (hide H ω) vs ds ∧
    ∀ vs' ds', DqAll K (hide H ω) vs' ds' → FldOk K ω (upd H b (.lst vs')) a k fs (putW f (.own ds') ws) := by
  induction h with
  | nil => cases e
  | @cons k g x w r r' h1 h2 ih =>
    rw [List.lookup_cons] at e
    cases q : f == g with
    | true =>
      rw [q] at e
      cases e
      obtain ⟨b, vs, rfl, o', h3, h4⟩ := h1
      refine ⟨b, vs, k, Nat.le_refl _, by rw [List.lookup_cons, q], o', h3, h4, fun vs' ds' hq => ?_⟩
      have hh : hide (upd H b (.lst vs')) ω = hide H ω := hide_upd o'
      rw [show putW f (.own ds') ((g, .own ds) :: r') = (if g = f then (g, .own ds') :: r' else (g, .own ds) :: putW f (.own ds') r') from rfl, if_pos (beq_iff_eq.mp q).symm]
      exact .cons ⟨b, vs', rfl, o', upd_same, by rw [hh]; exact hq⟩ (h2.other o' (Nat.lt_succ_self _))
    | false =>
      rw [q] at e
      obtain ⟨b, vs, j, hj, e1, o', h3, h4, fin⟩ := ih e
      refine ⟨b, vs, j, by omega, by rw [List.lookup_cons, q]; exact e1, o', h3, h4, fun vs' ds' hq => ?_⟩
      have hh : hide (upd H b (.lst vs')) ω = hide H ω := hide_upd o'
      have ne : g ≠ f := fun z => by rw [z] at q; simp at q
      rw [show putW f (.own ds') ((g, w) :: r') = (if g = f then (g, .own ds') :: r' else (g, w) :: putW f (.own ds') r') from rfl, if_neg ne]
      refine .cons ?_ (fin vs' ds' hq)
      cases w with
      | opq => trivial
      | val d => show Dq K (hide (upd H b _) ω) x d; rw [hh]; exact h1
      | own ds0 =>
        obtain ⟨b', vs0, e0, o0, h5, h6⟩ := h1
        refine ⟨b', vs0, e0, o0, ?_, by rw [hh]; exact h6⟩
        rw [upd_ne (fun z => ?_)]
        · exact h5
        · rw [z, o'] at o0
          injection o0 with o0
          injection o0 with _ o0
          omega
/-- an object changed where it lies -/
theorem OAt.setV {oc : OC} {o : Ob} {f : Str} {w0 : FW} {v : V} {d : D} (h : OAt oc K ω H a o) (e : ofF o f = .some w0) (q : Dq K (hide H ω) v d) : ∃ dx fs, H a = .some (.ins (oc.at_ o.c) dx fs) ∧ FldOk K ω H a 1 fs o.fs ∧ oc.kn o.c (o.fs.map (·.1)) ∧ OAt oc K ω (upd H a (.ins (oc.at_ o.c) dx (putF f v fs))) a (putO o f (.val d)) := by
  obtain ⟨h1, dx, fs, h2, h3, h4⟩ := h
  refine ⟨dx, fs, h2, h3, h4, h1, dx, putF f v fs, upd_same, ?_, by show oc.kn o.c ((putW f (.val d) o.fs).map (·.1)); rw [putW_names]; exact h4⟩
  exact (h3.putV (look_name e) q).other h1 (Nat.lt_succ_self _)
theorem OAt.setL {oc : OC} {o : Ob} {f : Str} {ds : List D} (h : OAt oc K ω H a o) (e : ofF o f = .some (.own ds)) : ∃ dx fs b vs j, H a = .some (.ins (oc.at_ o.c) dx fs) ∧ oc.kn o.c (o.fs.map (·.1)) ∧ fs.lookup f = .some (.ref b) ∧ ω b = .some (.obj a j) ∧ H b = .some (.lst vs) ∧ DqAll K (hide H ω) vs ds ∧
    ∀ vs' ds', DqAll K (hide H ω) vs' ds' → OAt oc K ω (upd H b (.lst vs')) a (putO o f (.own ds')) := by
  obtain ⟨h1, dx, fs, h2, h3, h4⟩ := h
  obtain ⟨b, vs, j, hj, e1, e2, e3, e4, fin⟩ := h3.putL e
  refine ⟨dx, fs, b, vs, j, h2, h4, e1, e2, e3, e4, fun vs' ds' q => ⟨h1, dx, fs, ?_, fin vs' ds' q, by show oc.kn o.c ((putW f (.own ds') o.fs).map (·.1)); rw [putW_names]; exact h4⟩⟩
  rw [upd_ne (fun z => ?_)]
  · exact h2
  · rw [z, e2] at h1
    injection h1 with h1
    injection h1 with _ h1
    omega
end
/-! ### slots -/
/-- an object or a lent list -/
noncomputable def W.heavy : W → Bool
  | .obj _ => true
  | .lnt _ _ => true
  | _ => false
theorem sole_at {i : Nat} : ∀ {l : List (Option W)} {k j : Nat} {o : W}, soleO i k l = true → l[j]? = some (some o) → o.heavy = true → k + j = i
  | [], _, _, _, _, e, _ => by simp at e
  | x :: r, k, 0, o, h, e, hv => by
    simp at e
    subst e
    cases o with
    | obj _ => simp only [soleO, Bool.and_eq_true, beq_iff_eq] at h; omega
    | lnt _ _ => simp only [soleO, Bool.and_eq_true, beq_iff_eq] at h; omega
    | _ => cases hv
  | x :: r, k, j + 1, o, h, e, hv => by
    have h2 : soleO i (k + 1) r = true := by
      cases x with
      | none => exact h
      | some w =>
        cases w with
        | obj _ => simp only [soleO, Bool.and_eq_true] at h; exact h.2
        | lnt _ _ => simp only [soleO, Bool.and_eq_true] at h; exact h.2
        | _ => exact h
    have := sole_at h2 (by simpa using e) hv
    omega
theorem sole_neW {c : Cfg} {i j : Nat} {o : W} (h : soleO i 0 c.env = true) (e : getS c j = some o) (hv : o.heavy = true) : j = i := by
  unfold getS at e
  cases q : c.env[j]? with
  | none => rw [q] at e; cases e
  | some w =>
    rw [q] at e
    have e : w = some o := e
    subst e
    have := sole_at h q hv
    omega
theorem getO_get {c : Cfg} {i : Nat} {o : Ob} (h : getO c i = some o) : getS c i = some (.obj o) := by
  unfold getO at h
  split at h
  · rename_i e; cases h; exact e
  · cases h
section
variable {n : Lv} {K : PySem.W.Frag} {G : Gh} {ω ω' : Om} {σ : L2.St} {H H' : Hp} {c : Cfg} {i : Nat} {a : Addr} {o o' : Ob}
theorem SlotOk.moveN {w : W} (h : SlotOk n K G ω σ H i w) (hw : w.heavy = false) (sm : Same (hide H ω) (hide H' ω')) (ow : ∀ a vs, ω a = some (.slot n.n i) → H a = some (.lst vs) → ω' a = some (.slot n.n i) ∧ H' a = some (.lst vs)) : SlotOk n K G ω' σ H' i w := by
  cases w with
  | obj o => cases hw
  | lnt _ _ => cases hw
  | val d => obtain ⟨v, e, r⟩ := h; exact ⟨v, e, dp_mono sm _ _ r⟩
  | own ds =>
    obtain ⟨a, vs, e, o, h0, h1, r⟩ := h
    obtain ⟨z1, z2⟩ := ow a vs o h1
    exact ⟨a, vs, e, z1, h0, z2, dps_mono sm _ _ r⟩
  | exc _ _ => obtain ⟨b, d, e, x, y⟩ := h; exact ⟨b, d, e, x, y.mono sm⟩
/-- the object of a slot has another state -/
theorem Rel.setOb (R : Rel n K G ω σ H c) (hs : soleO i 0 c.env = true) (ho : getS c i = some (.obj o)) (ha : σ[i]? = some (some (.ref a))) (s : Stp n.n ω H ω' H') (ow : ∀ j b vs, ω b = some (.slot n.n j) → H b = some (.lst vs) → ω' b = some (.slot n.n j) ∧ H' b = some (.lst vs))
    (k : OKeep (some a) ω H H') (q : OAt n.oc K ω' H' a o') : Rel n K G ω' σ H' (setS c i (some (.obj o'))) := by
  obtain ⟨a', e1, g, _⟩ := R.slot i _ ho
  rw [ha] at e1
  cases e1
  refine ⟨R.stp.trans s, fun j w e => ?_, by unfold setS; rw [List.length_set]; exact R.len, fun b o2 x k2 e1 e2 e3 e4 => ?_⟩
  · rcases getS_out e with ⟨e1, e2⟩ | ⟨ne, e2⟩
    · subst e1
      cases e2
      exact ⟨a, ha, g, q⟩
    · exact (R.slot j w e2).moveN (by
        cases hv : w.heavy with
        | false => rfl
        | true => exact absurd (sole_neW hs e2 hv) ne) s.same (ow j)
  · refine k b o2 x k2 ?_ (R.stp.grow x e2) ?_ (R.okp b o2 x k2 e1 e2 e3 e4)
    · rcases R.stp.own b _ e1 with z | ⟨_, _, z, _⟩
      · exact z
      · cases z
    · intro z
      cases z
      rcases g with ⟨g, _⟩ | ⟨g, _⟩
      · exact e3 g.symm
      · exact e2 g
theorem Stp.ob {m : Nat} {b x : Addr} {k : Nat} {u : HO} (d : Dom ω H) (hb : ω b = some (.obj x k)) : Stp m ω H ω (upd H b u) := by
  refine ⟨fun p o' e z => by rw [upd_ne (fun y => z x k (by rw [y]; exact hb))]; exact e, fun _ _ e => e, fun _ _ e => .inl e, fun p e => ?_, d, fun p q e => ?_⟩
  · by_cases z : p = b
    · rw [z, upd_same]; simp
    · rw [upd_ne z]; exact e
  · by_cases z : p = b
    · rw [z, upd_same]; simp
    · rw [upd_ne z]; exact d p q e
/-- .. by one cell of it -/
theorem Rel.setCell {b : Addr} {k : Nat} {u : HO} (R : Rel n K G ω σ H c) (hs : soleO i 0 c.env = true) (ho : getS c i = some (.obj o)) (ha : σ[i]? = some (some (.ref a))) (hb : ω b = some (.obj a k)) (q : OAt n.oc K ω (upd H b u) a o') :
    Same (hide H ω) (hide (upd H b u) ω) ∧ Rel n K G ω σ (upd H b u) (setS c i (some (.obj o'))) := by
  have s : Stp n.n ω H ω (upd H b u) := Stp.ob R.dom hb
  refine ⟨s.same, R.setOb hs ho ha s (fun j p vs e1 e2 => ⟨e1, by rw [upd_ne (fun z => by rw [z, hb] at e1; cases e1)]; exact e2⟩) (fun p o2 x k2 e1 e2 e3 e4 => ?_) q⟩
  rw [upd_ne (fun z => ?_)]
  · exact e4
  · rw [z, hb] at e1
    cases e1
    exact e3 rfl
end
/-! ### fields -/
section
variable {C : C0} {X : Cx} {i : Nat} {x f : Str} {p1 p2 p3 pos : Pos}
theorem se_fldO (hK : X.K = C.K) (kn : KnOk X.K C.T.oc) (hv : PE X (.Name x p1) (tVar i)) : SE C X (.fldO i f) (.Attribute (.Name x p1) f pos) := by
  refine .of hK rfl (fun _ => rfl) (fun _ => rfl) (pe_imp (pe_fld hv rfl) fun σ H Q ⟨G, ω, c, R, p⟩ => ?_)
  simp only [den, Den.of] at p
  cases eo : getO c i with
  | none => rw [eo] at p; exact p.elim
  | some o =>
    rw [eo] at p
    dsimp only at p
    cases ef : ofF o f with
    | none => rw [ef] at p; exact p.elim
    | some w =>
      rw [ef] at p
      cases w with
      | opq => exact p.elim
      | own _ => exact p.elim
      | val d =>
        obtain ⟨a, e1, g, h1, dx, fs, h2, h3, h4⟩ := R.slot i _ (getO_get eo)
        obtain ⟨v, j, _, e2, q⟩ := h3.some ef
        exact ⟨.ref a, e1, a, _, dx, fs, v, rfl, h2, kn.cls _ _ h4, kn.no _ _ h4 f (look_name ef), e2, p ω H v (Stp.refl R.dom) R q⟩
/-- self.f += k -/
theorem ps_augO {k : Int} {jj : Nat} (hK : X.K = C.K) (kn : KnOk X.K C.T.oc) (hv : PE X (.Name x p1) (tVar i)) : PS X (.AugAssign (.Attribute (.Name x p1) f p2) .Add (.Constant (.int k) jj p3) pos) (tS C (exS C.k (.augF i f k))) := by
  refine ps_imp (ps_fldaug hv pe_int in_add) fun D σ H ⟨G, ω, c, R, p⟩ => ?_
  simp only [exS] at p
  cases eo : getO c i with
  | none => rw [eo] at p; exact p.elim
  | some o =>
    rw [eo] at p
    dsimp only at p
    cases ef : ofF o f with
    | none => rw [ef] at p; exact p.elim
    | some w =>
      rw [ef] at p
      cases w with
      | opq => exact p.elim
      | own _ => exact p.elim
      | val d =>
        cases d with
        | int b =>
          dsimp only at p
          by_cases hs : soleO i 0 c.env = true
          · rw [if_pos hs] at p
            have hg := getO_get eo
            obtain ⟨a, e1, g, oa⟩ := R.slot i _ hg
            have oa' := oa
            obtain ⟨h1, _, _, _, h3', _⟩ := oa'
            obtain ⟨dx, fs, h2, h3, h4, fin⟩ := oa.setV (v := .int (b + k)) (d := .int (b + k)) ef (.int _)
            obtain ⟨v, j, _, e2, q⟩ := h3.some ef
            cases q
            obtain ⟨sm, R2⟩ := R.setCell hs hg e1 h1 fin
            have few := kn.few _ _ h4
            rw [← h3.names, List.length_map] at few
            exact ⟨.ref a, e1, a, _, dx, fs, .int b, rfl, h2, kn.cls _ _ h4, kn.no _ _ h4 f (look_name ef), e2, b, k, rfl, rfl, dx, fs, h2, few, p ω σ _ sm R2⟩
          · rw [if_neg hs] at p; exact p.elim
        | _ => exact p.elim
end
end Rp

/-! Rp, part P: lists in fields. -/
namespace Rp
open PySem PySem.Spec PyProof.Rows L2
theorem atF_cases {c : Cfg} {i : Nat} {f : Str} {j : Nat} {n : Int} {o : Ob} {ds : List D} {k : Int} (h : atF c i f j n = some (o, ds, k)) :
    getS c i = some (.obj o) ∧ soleO i 0 c.env = true ∧ ofF o f = some (.own ds) ∧ ∃ l, (getS c j = some (.val (.tuple l)) ∨ getS c j = some (.val (.list l))) ∧ ixD l n = some (.int k) := by
  unfold atF at h
  split at h
  · rename_i o' t e1 e2
    split at h
    · rename_i hs
      split at h
      · rename_i ds' k' e3 e4
        cases h
        refine ⟨getO_get e1, hs, e3, ?_⟩
        simp only [prim] at e4
        cases t with
        | tuple l =>
          simp only [pIx, Option.map_eq_some_iff] at e4
          obtain ⟨z, e5, e6⟩ := e4
          cases e6
          exact ⟨l, .inl e2, e5⟩
        | list l =>
          simp only [pIx, Option.map_eq_some_iff] at e4
          obtain ⟨z, e5, e6⟩ := e4
          cases e6
          exact ⟨l, .inr e2, e5⟩
        | str s =>
          simp only [pIx] at e4
          split at e4
          · rw [Option.map_eq_some_iff] at e4
            obtain ⟨z, _, e6⟩ := e4
            cases e6
          · cases e4
        | _ => cases e4
      · cases h
    · cases h
  · cases h
section
variable {C : C0} {X : Cx} {i j : Nat} {x y f : Str} {n : Int} {jj : Nat} {p1 p2 p3 p4 p5 p6 p7 pos : Pos}
theorem pe_place (hy : PE X (.Name y p3) (tVar j)) : PE X (.Subscript (.Name y p3) (.Constant (.int n) jj p4) p5) (tOp (rIx X.K) (tVar j) (tC (.int n))) := pe_ix ix_seq hy pe_int (fun _ _ => rfl)
theorem place_ok {G : Gh} {ω : Om} {σ : L2.St} {H : Hp} {c : Cfg} {l : List D} {k : Int} {Q : VK} (hK : X.K = C.K) (R : Rel C.n C.K G ω σ H c) (h : getS c j = some (.val (.tuple l)) ∨ getS c j = some (.val (.list l))) (e : ixD l n = some (.int k)) (q : Q (.int k) H) : tOp (rIx X.K) (tVar j) (tC (.int n)) σ H Q := by
  rcases h with h | h
  · obtain ⟨v, e1, r⟩ := R.slot j _ h
    cases r with
    | tup hq r =>
      obtain ⟨z, e2, q2⟩ := atI_dps r e
      cases q2
      exact ⟨_, e1, .inr (.inl ⟨_, _, n, .int k, rfl, rfl, hK ▸ same_sqT hide_same hq, e2, q⟩)⟩
  · obtain ⟨v, e1, r⟩ := R.slot j _ h
    cases r with
    | lst hq r =>
      obtain ⟨z, e2, q2⟩ := atI_dps r e
      cases q2
      exact ⟨_, e1, .inl ⟨_, _, n, .int k, rfl, rfl, .inl (rd_mono hide_same hq), e2, q⟩⟩
theorem pe_ixO (hK : X.K = C.K) (kn : KnOk X.K C.T.oc) (hv : PE X (.Name x p1) (tVar i)) (hy : PE X (.Name y p3) (tVar j)) :
    SE C X (.ixF i f j n) (.Subscript (.Attribute (.Name x p1) f p2) (.Subscript (.Name y p3) (.Constant (.int n) jj p4) p5) pos) := by
  refine .of hK rfl (fun _ => rfl) (fun _ => rfl) (pe_imp (pe_ix ix_list (pe_fld hv rfl) (pe_place hy) (fun _ _ => rfl)) fun σ H Q ⟨G, ω, c, R, p⟩ => ?_)
  simp only [den, Den.of] at p
  cases ea : atF c i f j n with
  | none => rw [ea] at p; exact p.elim
  | some t =>
    obtain ⟨o, ds, k⟩ := t
    rw [ea] at p
    dsimp only at p
    obtain ⟨h1, hs, h2, l, h3, h4⟩ := atF_cases ea
    cases ed : ixD ds k with
    | none => rw [ed] at p; exact p.elim
    | some d =>
      rw [ed] at p
      obtain ⟨a, e1, g, oa⟩ := R.slot i _ h1
      obtain ⟨dx, fs, b, vs, m, q1, q2, q3, q4, q5, q6, _⟩ := oa.setL h2
      obtain ⟨v, e5, q7⟩ := atI_dps q6 ed
      exact ⟨.ref a, e1, a, _, dx, fs, .ref b, rfl, q1, kn.cls _ _ q2, kn.no _ _ q2 f (look_name h2), q3, place_ok (C := C) hK R h3 h4 ⟨b, vs, k, v, rfl, rfl, SqL.of q5, e5, p ω H v (Stp.refl R.dom) R q7⟩⟩
theorem no_sub2 {o ek : Expr} {p2 : Pos} {env : Env} (h : notStar ek = true) (hs : ∀ a b c d, ek ≠ .Slice a b c d) : ∀ v, assign (.Subscript o ek p2) env v = (do
      let q ← holding [v] (eval o env)
      let r ← holding [v, q] (eval ek env)
      standAt p2
      holding [v, q, r] (setItem q r v)
      release [v, q, r] []) := by
  intro v
  cases ek with
  | Slice a b c d => exact absurd rfl (hs a b c d)
  | _ => rfl
/-- self.f[y[n]] = e -/
theorem ps_sixO {m : Ex} {e : Expr} (hK : X.K = C.K) (kn : KnOk X.K C.T.oc) (hv : PE X (.Name x p1) (tVar i)) (hy : PE X (.Name y p3) (tVar j)) (hnc : noComp e = true) (h : SE C X m e) :
    PS X (.Assign [.Subscript (.Attribute (.Name x p1) f p2) (.Subscript (.Name y p3) (.Constant (.int n) jj p4) p5) p6] e pos) (tS C (exS C.k (.sixF i f j n m))) := by
  refine ps_imp (ps_asg h.v (pg_sub (pe_fld hv rfl) (pe_place hy) set_list (no_sub2 rfl (fun _ _ _ _ z => by cases z))) (by unfold swapsWithSole; exact no_swap hnc) ?_ rfl) fun D σ H ⟨G, ω, c, R, p⟩ => ⟨G, ω, c, R, ?_⟩
  · unfold swappedStores
    cases e <;> rfl
  · simp only [exS] at p
    refine p.bind fun d c1 ω1 H1 z s1 R1 q1 p1 => ?_
    cases ea : atF c1 i f j n with
    | none => rw [ea] at p1; exact p1.elim
    | some t =>
      obtain ⟨o, ds, k⟩ := t
      rw [ea] at p1
      dsimp only at p1
      obtain ⟨h1, hs, h2, l, h3, h4⟩ := atF_cases ea
      by_cases hz : (decide (0 ≤ k) && decide (k < (ds.length : Int))) = true
      · rw [if_pos hz] at p1
        simp only [Bool.and_eq_true, decide_eq_true_eq] at hz
        obtain ⟨a, e1, g, oa⟩ := R1.slot i _ h1
        obtain ⟨dx, fs, b, vs, m, r1, r2, r3, r4, r5, r6, fin⟩ := oa.setL h2
        obtain ⟨sm, R2⟩ := R1.setCell hs h1 e1 r4 (fin _ _ (dps_set q1 k.toNat r6))
        refine ⟨.ref a, e1, a, _, dx, fs, .ref b, rfl, r1, kn.cls _ _ r2, kn.no _ _ r2 f (look_name h2), r3, place_ok (C := C) hK R1 h3 h4 ⟨b, vs, k, k.toNat, rfl, rfl, r5, ?_, p1 ω1 σ _ sm R2⟩⟩
        unfold ixN
        rw [if_pos hz.1, if_pos (by rw [dps_len r6]; exact hz.2)]
      · rw [if_neg hz] at p1; exact p1.elim
/-- xs[i], by values -/
theorem get_list : PGet X (fun o i H Q => ∃ p xs k v, o = .ref p ∧ i = .int k ∧ 0 ≤ k ∧ H p = some (.lst xs) ∧ xs[k.toNat]? = some v ∧ Q v H) := by
  intro pins s σ H o i ov iv Q I ro ri h
  obtain ⟨p, xs, k, v, rfl, rfl, h0, hp, hx, q⟩ := h
  cases ro
  obtain ⟨t, rfl⟩ := ri
  obtain ⟨its, r, pl, hz⟩ := I.list (SqL.of hp)
  obtain ⟨w, ew, rw'⟩ := r.get hx
  have hl := r.length
  have hn := line63
  have hlt : k.toNat < xs.length := (List.getElem?_eq_some_iff.mp hx).1
  exact wpAny_getItem_list pl.isList h0 (by omega) (by simpa using ew) ⟨v, H, I, rw', q⟩
/-- self.f[y[n]] += a -/
theorem ps_augxO {av : Int} {j2 : Nat} (hK : X.K = C.K) (kn : KnOk X.K C.T.oc) (hv : PE X (.Name x p1) (tVar i)) (hy : PE X (.Name y p3) (tVar j)) :
    PS X (.AugAssign (.Subscript (.Attribute (.Name x p1) f p2) (.Subscript (.Name y p3) (.Constant (.int n) jj p4) p5) p6) .Add (.Constant (.int av) j2 p7) pos) (tS C (exS C.k (.augxF i f j n av))) := by
  refine ps_imp (ps_augS (pe_fld hv rfl) (pe_place hy) get_list pe_int ip_add set_list) fun D σ H ⟨G, ω, c, R, p⟩ => ?_
  simp only [exS] at p
  cases ea : atF c i f j n with
  | none => rw [ea] at p; exact p.elim
  | some t =>
    obtain ⟨o, ds, k⟩ := t
    rw [ea] at p
    dsimp only at p
    obtain ⟨h1, hs, h2, l, h3, h4⟩ := atF_cases ea
    by_cases hz : (decide (0 ≤ k) && decide (k < (ds.length : Int))) = true
    · rw [if_pos hz] at p
      simp only [Bool.and_eq_true, decide_eq_true_eq] at hz
      cases ex : ds[k.toNat]? with
      | none => rw [ex] at p; exact p.elim
      | some d0 =>
        rw [ex] at p
        cases d0 with
        | int z =>
          dsimp only at p
          obtain ⟨a, e1, g, oa⟩ := R.slot i _ h1
          obtain ⟨dx, fs, b, vs, m, r1, r2, r3, r4, r5, r6, fin⟩ := oa.setL h2
          obtain ⟨v0, ev, qv⟩ := dps_get' r6 ex
          cases qv
          obtain ⟨sm, R2⟩ := R.setCell hs h1 e1 r4 (fin _ _ (dps_set (.int (z + av)) k.toNat r6))
          refine ⟨.ref a, e1, a, _, dx, fs, .ref b, rfl, r1, kn.cls _ _ r2, kn.no _ _ r2 f (look_name h2), r3, place_ok (C := C) hK R h3 h4 ⟨b, vs, k, .int z, rfl, rfl, hz.1, r5, ev, z, av, rfl, rfl, b, vs, k, k.toNat, rfl, rfl, r5, ?_, p ω σ _ sm R2⟩⟩
          unfold ixN
          rw [if_pos hz.1, if_pos (by rw [dps_len r6]; exact hz.2)]
        | _ => exact p.elim
    · rw [if_neg hz] at p; exact p.elim
end
end Rp

/-! Rp, part M: methods, new objects. -/
namespace Rp
open PySem PySem.Spec PyProof.Rows L2
/-- what a method at level n promises; its object lies at a -/
noncomputable def PostM (T : Pr) (K : PySem.W.Frag) (n : Nat) (a : Addr) (ω : Om) (H : Hp) (r : Option (Sum W Exn × Ob)) (Q : VK) (E : XK) : Prop := match r with
  | some (.inl w, o) => ∀ ω' H' v, Stp n ω H ω' H' → OKeep (some a) ω H H' → OAt T.oc K ω' H' a o → RW K H ω' H' v w → Q v H'
  | some (.inr x, o) => ∀ ω' H' d, Stp n ω H ω' H' → OKeep (some a) ω H H' → OAt T.oc K ω' H' a o → Pay T K x d ω' H' → E (T.cls x.c) d H'
  | none => False
noncomputable def spM (T : Pr) (K : PySem.W.Frag) (n : Nat) (f : Nat) (np : Nat) : Sp := fun vs H Q E => vs.length = np ∧ ∃ a us ω o ds, vs = .ref a :: us ∧ Dom ω H ∧ OAt T.oc K ω H a o ∧ DqAll K (hide H ω) us ds ∧ PostM T K n a ω H ((callN T.tab n).m f o ds) Q E
/-- a method, or a def of an object, that may be called -/
structure CallM (X : Cx) (T : Pr) (n : Nat) (f : Nat) (fn : Fn) (at_ : Addr → Prop) : Prop where
  ex : ∃ (fa : Addr) (fd : FuncData) (ps : List Str), ps.length = fn.np ∧ FnOk X.prog X.w X.K X.mg X.base (L2.CX X.prog X.w) (n + 4) fa fd ps (spM T X.K n f ps.length) ∧ at_ fa ∧ Binds X.K fd ps []
theorem runM_args {k : Call} {fn : Fn} {o : Ob} {ds : List D} {r : Sum W Exn × Ob} (h : runM k fn o ds = some r) : ds.length + 1 = fn.np := by
  unfold runM at h
  split at h
  · assumption
  · cases h
theorem callM_args {T : Pr} {n f : Nat} {fn : Fn} (ht : T.tab f = some fn) {o : Ob} {ds : List D} {r : Sum W Exn × Ob} (h : (callN T.tab n).m f o ds = some r) : ds.length + 1 = fn.np := by
  cases n with
  | zero => cases h
  | succ n =>
    simp only [callN, ht] at h
    exact runM_args h
/-! ### the tree of a method call -/
theorem form_ok {es : List Expr} {env : Env} {pos : Pos} (h : es.all notStar = true) (hl : es.length < 29) : methodCallForm (es.length + ([] : List Keyword).length) (backTo pos (starEach es env)) (backToKw pos (keywordEach [] env)) = true := by
  have e := stars_of (pos := pos) (env := env) h
  have e2 : (backTo pos (starEach es env)).all (fun x => !x.1) = true := by
    rw [List.all_eq_true]
    intro x hx
    rw [List.any_eq_false] at e
    have := e x hx
    simpa using this
  unfold methodCallForm
  rw [e2, show backToKw pos (keywordEach [] env) = [] from rfl]
  simp
  omega
theorem mtree {o : Expr} {m : Str} {apos pos : Pos} {es : List Expr} {env : Env} (hb : attributeBase o m env (eval o env) = eval o env) (h : es.all notStar = true) (hl : es.length < 29) (hp : (apos.endLine == pos.line) = true) :
    eval (.Call (.Attribute o m apos) es [] pos) env = (do
      let q ← eval o env
      standAt apos.atName
      let (g, first) ← holding [q] (getMethod q m (do return (← importBound o env).getD true))
      callWith pos g first (backTo pos (starEach es env)) (backToKw pos (keywordEach [] env))) := by
  refine mcall_of hb fun ov => ?_
  unfold methodCall
  rw [form_ok h hl]
  unfold calleeOf methodCallPos
  simp only [hp, if_true, Bool.not_true, Bool.false_or]
  rfl
section
variable {X : Cx} {CX : CXT} {k : Nat} {f C : Addr} {fd : FuncData} {ps : List Str} {sp : Sp} {E : L2.St → XK} {m : Str} {pos apos : Pos} {o : Expr} {es : List Expr} {ta : TE} {t : TA}
noncomputable def tMt (C : Addr) (m : Str) (sp : Sp) (E : L2.St → XK) (ta : TE) (t : TA) : TE := fun σ H Q => ta σ H fun x H1 => ∃ a dx fs, x = .ref a ∧ H1 a = some (.ins C dx fs) ∧ fs.lookup m = none ∧ t σ H1 fun vs H2 => sp (x :: vs) H2 Q (E σ)
theorem pe_mt {e : Expr} (he : PE X o ta) (hbase : attributeBase o m X.env (eval o X.env) = eval o X.env) (c : Cls X.K C) (hm : Meth X.K C m f) (F : FnOk X.prog X.w X.K X.mg X.base CX k f fd ps sp) (hr : Room k X.A) (hb : Binds X.K fd ps []) (hx : ∀ σ, PassesAt CX X σ (E σ)) (ha : PA X (e :: es) t)
    (hs : (e :: es).all notStar = true) (hl : (e :: es).length < 29) (hp : (apos.endLine == pos.line) = true) : PE X (.Call (.Attribute o m apos) (e :: es) [] pos) (tMt C m sp E ta t) := by
  refine ⟨fun pins s σ H Q I h => ?_⟩
  refine PySem.W.methodCall_KW (thn (he.run pins s σ H _ I h) fun u s1 ⟨x, H1, I1, rx, a, dx, fs, ex, ea, l, q⟩ => ?_) (mtree hbase hs hl hp)
  subst ex
  obtain rfl : u = Value.ref a := rx
  refine getmeth_ok I1 ea c hm l ?_
  rw [List.all_cons, Bool.and_eq_true] at hs
  refine PySem.W.callWith_K (first := [.ref a]) (h₀ := X.base) I.ok.mod.kin hm.kp (thn (ha.run pos pins s1 σ H1 _ I1 q) fun us s2 ⟨vs, H2, I2, r, q2⟩ => ⟨I2.kIn, ?_⟩) (star_of hs.1) (stars_of hs.2)
  exact run_fnS (us := .ref a :: us) (vs := .ref a :: vs) F hr hb (hx σ) I2 (.cons rfl r) q2
theorem pe_mt0 (he : PE X o ta) (hbase : attributeBase o m X.env (eval o X.env) = eval o X.env) (c : Cls X.K C) (hm : Meth X.K C m f) (F : FnOk X.prog X.w X.K X.mg X.base CX k f fd ps sp) (hr : Room k X.A) (hb : Binds X.K fd ps []) (hx : ∀ σ, PassesAt CX X σ (E σ))
    (hp : (apos.endLine == pos.line) = true) : PE X (.Call (.Attribute o m apos) [] [] pos) (tMt C m sp E ta tNil) := by
  refine ⟨fun pins s σ H Q I h => ?_⟩
  refine PySem.W.methodCall_KW (thn (he.run pins s σ H _ I h) fun u s1 ⟨x, H1, I1, rx, a, dx, fs, ex, ea, l, q⟩ => ?_) (mtree hbase rfl (by decide) hp)
  subst ex
  obtain rfl : u = Value.ref a := rx
  refine getmeth_ok I1 ea c hm l ?_
  exact PySem.W.callWith_K0 (first := [.ref a]) I1.kIn hm.kp (run_fnS (us := [.ref a]) (vs := [.ref a]) F hr hb (hx σ) I1 (.cons rfl .nil) q)
end
section
variable {C : C0} {X : Cx}
/-- behind a call of the object in slot i -/
theorem mth_post {G : Gh} {ω : Om} {σ : L2.St} {H : Hp} {c : Cfg} {i f : Nat} {a : Addr} {o : Ob} {vs : List V} {ds : List D} {Q : VK} (hK : X.K = C.K) (R : Rel C.n C.K G ω σ H c) (ea : σ[i]? = some (some (.ref a))) (hg : getS c i = some (.obj o)) (hs : soleO i 0 c.env = true) (q : DqAll C.K (hide H ω) vs ds) {fn : Fn} (ht : C.T.tab f = some fn) {np : Nat} (hnp : np = fn.np)
    (p : Post C G σ ω H (mthR (C.k.m f o ds) i c) (rW C.K) Q) : spM C.T X.K C.m f np (.ref a :: vs) H Q (WE C.W σ) := by
  cases er : C.k.m f o ds with
  | none => rw [er] at p; exact p.elim
  | some r =>
    rw [er] at p
    obtain ⟨a', e1, g, oa⟩ := R.slot i _ hg
    rw [ea] at e1
    cases e1
    refine ⟨?_, a, vs, ω, o, ds, rfl, R.dom, hK ▸ oa, hK ▸ q, ?_⟩
    · rw [List.length_cons, dps_len q, callM_args ht er]; exact hnp.symm
    · rw [show (callN C.T.tab C.m).m f o ds = some r from er]
      have ow : ∀ {ω' : Om} {H' : Hp}, Stp C.m ω H ω' H' → ∀ j b vs, ω b = some (.slot C.l j) → H b = some (.lst vs) → ω' b = some (.slot C.l j) ∧ H' b = some (.lst vs) := fun {ω' H'} s j b vs e1 e2 => by
        refine ⟨?_, s.keep b _ e2 fun x k z => by rw [e1] at z; cases z⟩
        rcases s.own b _ e1 with z | ⟨m', i', z, hm', _⟩
        · exact z
        · injection z with z1 z2
          exact absurd hm' (by rw [← z1]; exact Nat.not_succ_le_self _)
      obtain ⟨r, o'⟩ := r
      cases r with
      | inl w => exact fun ω' H' v s k oa' q' => p ω' H' v (s.mono (Nat.le_succ _)) (R.setOb hs hg ea (s.mono (Nat.le_succ _)) (ow s) k (hK ▸ oa')) (hK ▸ q')
      | inr x => exact fun ω' H' d s k oa' q' => p ω' H' d (s.mono (Nat.le_succ _)) (R.setOb hs hg ea (s.mono (Nat.le_succ _)) (ow s) k (hK ▸ oa')) (hK ▸ q')
theorem mth_args {G : Gh} {σ : L2.St} {ω : Om} {H : Hp} {c : Cfg} {i f : Nat} {a : Addr} {ms : Exs} {Q : VK} (hK : X.K = C.K) (ea : σ[i]? = some (some (.ref a))) {fn : Fn} (ht : C.T.tab f = some fn) {np : Nat} (hnp : np = fn.np)
    (p : Post C G σ ω H ((denVs C.k ms c).bind fun ds c => (match getO c i with
        | some o => if soleO i 0 c.env then mthR (C.k.m f o ds) i c else .no
        | none => .no)) (rW C.K) Q) : Post C G σ ω H (denVs C.k ms c) (rVs C.K) (fun vs H1 => spM C.T X.K C.m f np (.ref a :: vs) H1 Q (WE C.W σ)) := by
  refine p.bind fun ds c1 ω1 H1 vs _ s1 R1 q1 p1 => ?_
  cases eo : getO c1 i with
  | none => rw [eo] at p1; exact p1.elim
  | some o =>
    rw [eo] at p1
    dsimp only at p1
    by_cases hs : soleO i 0 c1.env = true
    · rw [if_pos hs] at p1
      exact mth_post hK R1 ea (getO_get eo) hs q1 ht hnp p1
    · rw [if_neg hs] at p1; exact p1.elim
theorem se_mth {f i : Nat} {fn : Fn} {cn m x : Str} {es : List Expr} {ms : Exs} {p1 apos pos : Pos} (hK : X.K = C.K) (kn : KnOk X.K C.T.oc) (ht : C.T.tab f = some fn) (F : CallM X C.T C.m f fn (Meth X.K (C.T.oc.at_ cn) m))
    (hr : Room (C.m + 4) X.A) (pass : ∀ σ, PassesAt (L2.CX X.prog X.w) X σ (WE C.W σ)) (hv : PE X (.Name x p1) (tVar i)) (ha : PA X es (tVs C ms)) (hnil : es = [] ↔ ms = .nil) (hs : es.all notStar = true) (hl : es.length < 29) (hp : (apos.endLine == pos.line) = true) :
    SE C X (.mth i cn m f ms) (.Call (.Attribute (.Name x p1) m apos) es [] pos) := by
  obtain ⟨fa, fd, ps, hnp, Fo, hm, hb⟩ := F.ex
  by_cases hc : ∃ fs, C.T.oc.kn cn fs
  · obtain ⟨fs0, hc⟩ := hc
    have cl := kn.cls _ _ hc
    cases es with
    | nil =>
      obtain rfl := hnil.mp rfl
      refine .of hK rfl (fun _ => rfl) (fun _ => rfl) (pe_imp (pe_mt0 hv rfl cl hm Fo hr hb pass hp) fun σ H Q ⟨G, ω, c, R, p⟩ => ?_)
      simp only [den, Den.of] at p
      cases eo : getO c i with
      | none => rw [eo] at p; exact p.elim
      | some o =>
        rw [eo] at p
        dsimp only at p
        by_cases hz : (decide (o.c = cn) && (ofF o m).isNone) = true
        · rw [if_pos hz] at p
          simp only [Bool.and_eq_true, decide_eq_true_eq, Option.isNone_iff_eq_none] at hz
          obtain ⟨a, e1, g, h1, dx, fs, h2, h3, h4⟩ := R.slot i _ (getO_get eo)
          refine ⟨.ref a, e1, a, dx, fs, rfl, by rw [← hz.1]; exact h2, h3.none hz.2, ?_⟩
          have z := mth_args (np := ps.length) hK e1 ht hnp p
          simp only [denVs] at z
          exact z ω H [] (Stp.refl R.dom) R .nil
        · rw [if_neg hz] at p; exact p.elim
    | cons e es =>
      refine .of hK rfl (fun _ => rfl) (fun _ => rfl) (pe_imp (pe_mt hv rfl cl hm Fo hr hb pass ha hs hl hp) fun σ H Q ⟨G, ω, c, R, p⟩ => ?_)
      simp only [den, Den.of] at p
      cases eo : getO c i with
      | none => rw [eo] at p; exact p.elim
      | some o =>
        rw [eo] at p
        dsimp only at p
        by_cases hz : (decide (o.c = cn) && (ofF o m).isNone) = true
        · rw [if_pos hz] at p
          simp only [Bool.and_eq_true, decide_eq_true_eq, Option.isNone_iff_eq_none] at hz
          obtain ⟨a, e1, g, h1, dx, fs, h2, h3, h4⟩ := R.slot i _ (getO_get eo)
          exact ⟨.ref a, e1, a, dx, fs, rfl, by rw [← hz.1]; exact h2, h3.none hz.2, G, ω, c, R, mth_args hK e1 ht hnp p⟩
        · rw [if_neg hz] at p; exact p.elim
  · -- no such class is known: never reached
    have bad : ∀ {σ : L2.St} {H : Hp} {Q : VK}, tW C (.mth i cn m f ms) σ H Q → False := fun {σ H Q} ⟨G, ω, c, R, p⟩ => by
      simp only [den, Den.of] at p
      cases eo : getO c i with
      | none => rw [eo] at p; exact p.elim
      | some o =>
        rw [eo] at p
        dsimp only at p
        by_cases hz : (decide (o.c = cn) && (ofF o m).isNone) = true
        · simp only [Bool.and_eq_true, decide_eq_true_eq] at hz
          obtain ⟨a, e1, g, h1, dx, fs, h2, h3, h4⟩ := R.slot i _ (getO_get eo)
          exact hc ⟨_, by rw [← hz.1]; exact h4⟩
        · rw [if_neg hz] at p; exact p.elim
    exact .of hK rfl (fun _ => rfl) (fun _ => rfl) ⟨fun pins s σ H Q I h => (bad h).elim⟩
/-- f(self, ..): a def of an object -/
theorem se_mthN {f i : Nat} {fn : Fn} {x y : Str} {es : List Expr} {ms : Exs} {p1 p2 pos : Pos} (hK : X.K = C.K) (ht : C.T.tab f = some fn) (F : CallM X C.T C.m f fn (fun fa => X.mg x = some (.ref fa) ∧ PySem.W.keepIn X.K (.ref fa) = true))
    (hr : Room (C.m + 4) X.A) (hg : Gl X x) (pass : ∀ σ, PassesAt (L2.CX X.prog X.w) X σ (WE C.W σ)) (hv : PE X (.Name y p2) (tVar i)) (ha : PA X es (tVs C ms)) (hs : es.all notStar = true) (hd : (x == ("__debug__" : Str)) = false) :
    SE C X (.mthN i f ms) (.Call (.Name x p1) (.Name y p2 :: es) [] pos) := by
  obtain ⟨fa, fd, ps, hnp, Fo, ⟨hm, hk⟩, hb⟩ := F.ex
  refine .of hK rfl (fun _ => rfl) (fun _ => rfl) (pe_imp (pe_callS Fo hr hg hm hk hb pass (pa_cons hv ha rfl) hd rfl (stars_of hs)) fun σ H Q ⟨G, ω, c, R, p⟩ => ?_)
  simp only [den, Den.of] at p
  cases eo : getO c i with
  | none => rw [eo] at p; exact p.elim
  | some o =>
    rw [eo] at p
    dsimp only at p
    obtain ⟨a, e1, _⟩ := R.slot i _ (getO_get eo)
    exact ⟨.ref a, e1, G, ω, c, R, mth_args hK e1 ht hnp p⟩
end
end Rp

/-! Rp, part N: new objects. -/
namespace Rp
open PySem PySem.Spec PyProof.Rows L2
/-- what an __init__ does, field by field -/
inductive IniR (a C dx : Addr) : List (Str × Fi) → List V → List (Str × V) → Hp → List (Str × V) → Hp → Prop
  | nil (fs : List (Str × V)) (H : Hp) : IniR a C dx [] [] fs H fs H
  | int {f : Str} {n : Int} {r : List (Str × Fi)} {us : List V} {fs fs' : List (Str × V)} {H H' : Hp} : IniR a C dx r us (fs ++ [(f, .int n)]) (upd H a (.ins C dx (fs ++ [(f, .int n)]))) fs' H' → IniR a C dx ((f, .int n) :: r) us fs H fs' H'
  | par {f : Str} {v : V} {r : List (Str × Fi)} {us : List V} {fs fs' : List (Str × V)} {H H' : Hp} : IniR a C dx r us (fs ++ [(f, v)]) (upd H a (.ins C dx (fs ++ [(f, v)]))) fs' H' → IniR a C dx ((f, .par) :: r) (v :: us) fs H fs' H'
  | lst {f : Str} {p : Addr} {r : List (Str × Fi)} {us : List V} {fs fs' : List (Str × V)} {H H' : Hp} : H p = none → IniR a C dx r us (fs ++ [(f, .ref p)]) (upd (upd H p (.lst [])) a (.ins C dx (fs ++ [(f, .ref p)]))) fs' H' → IniR a C dx ((f, .lst) :: r) us fs H fs' H'
  | dct {f : Str} {p : Addr} {r : List (Str × Fi)} {us : List V} {fs fs' : List (Str × V)} {H H' : Hp} : H p = none → IniR a C dx r us (fs ++ [(f, .ref p)]) (upd (upd H p (.dK [])) a (.ins C dx (fs ++ [(f, .ref p)]))) fs' H' → IniR a C dx ((f, .dct) :: r) us fs H fs' H'
noncomputable def nPar : List (Str × Fi) → Nat
  | [] => 0
  | (_, .par) :: r => nPar r + 1
  | _ :: r => nPar r
/-- its text: self.f = n, self.f = p, self.f = [], self.f = {} -/
noncomputable def iniE (par : Option Str) : Fi → Expr → Bool
  | .int n, e => (match e with
    | .Constant (.int i) _ _ => i == n
    | _ => false)
  | .par, e => (match e with
    | .Name y _ => par == some y
    | _ => false)
  | .lst, e => (match e with
    | .List [] _ => true
    | _ => false)
  | .dct, e => (match e with
    | .Dict [] [] _ => true
    | _ => false)
noncomputable def iniB (par : Option Str) : List (Str × Fi) → List Stmt → Bool
  | [], b => b.isEmpty
  | (f, k) :: r, b => match b with
    | .Assign [.Attribute (.Name s _) g _] e _ :: b => s == ("self" : Str) && g == f && iniE par k e && iniB par r b
    | _ => false
noncomputable def spIni (K : PySem.W.Frag) (ini : List (Str × Fi)) (np : Nat) : Sp := fun vs H Q E => vs.length = np ∧ ∃ a us C dx, vs = .ref a :: us ∧ us.length ≤ 1 ∧ us.length = nPar ini ∧ H a = some (.ins C dx []) ∧ Cls K C ∧ (∀ f ∈ ini.map (·.1), NoAttr K C f) ∧ ∀ fs H', IniR a C dx ini us [] H fs H' → Q .non H'
theorem putF_new {f : Str} {v : V} : ∀ {fs : List (Str × V)}, f ∉ fs.map (·.1) → putF f v fs = fs ++ [(f, v)]
  | [], _ => rfl
  | (g, x) :: r, h => by
    rw [List.map_cons, List.mem_cons, not_or] at h
    rw [show putF f v ((g, x) :: r) = (if g = f then (g, v) :: r else (g, x) :: putF f v r) from rfl, if_neg (fun z => h.1 z.symm), putF_new h.2]
    rfl
theorem ini_walk {X : Cx} {par : Option Str} (hv : ∀ p, PE X (.Name "self" p) (tVar 0)) (hp : ∀ y, par = some y → ∀ p, PE X (.Name y p) (tVar 1)) : ∀ (ini : List (Str × Fi)) (body : List Stmt), iniB par ini body = true → ∃ t : TS, PSs X body t ∧
    ∀ D σ H a C dx fs0 us, σ[0]? = some (some (.ref a)) → (∀ v, us = [v] → σ[1]? = some (some v)) → us.length ≤ 1 → us.length = nPar ini → H a = some (.ins C dx fs0) → Cls X.K C → (∀ f ∈ ini.map (·.1), NoAttr X.K C f) → (∀ f ∈ ini.map (·.1), f ∉ fs0.map (·.1)) → (ini.map (·.1)).Nodup → fs0.length + ini.length < 1000 →
      (∀ fs H', IniR a C dx ini us fs0 H fs H' → D.nx σ H') → t D σ H
  | [], body, h => by
    simp only [iniB, List.isEmpty_iff] at h
    subst h
    exact ⟨_, pss_nil, fun D σ H a C dx fs0 us h0 h1 hl e ha _ _ _ _ _ q => by
      cases us with
      | cons _ _ => cases e
      | nil => exact q _ _ (.nil fs0 H)⟩
  | (f, k) :: r, body, h => by
    simp only [iniB] at h
    split at h
    · rename_i s0 q1 g q2 e0 q3 b
      simp only [Bool.and_eq_true, beq_iff_eq] at h
      obtain ⟨⟨⟨hs, hg⟩, he⟩, h⟩ := h
      subst hs hg
      obtain ⟨t, pt, ht⟩ := ini_walk hv hp r b h
      have main : ∀ {te : TE} {e : Expr} {pa pb pc : Pos} (pe : PE X e te) (hn : noComp e = true), (∀ σ H Q (us : List V) a C dx fs0, us.length = nPar ((g, k) :: r) → us.length ≤ 1 → (∀ v, us = [v] → σ[1]? = some (some v)) → (∀ v H1 us', us'.length ≤ 1 → us'.length = nPar r → (∀ v, us' = [v] → σ[1]? = some (some v)) → (∀ b o, H b = some o → H1 b = some o) → (∀ fs' H', IniR a C dx r us' (fs0 ++ [(g, v)]) (upd H1 a (.ins C dx (fs0 ++ [(g, v)]))) fs' H' → IniR a C dx ((g, k) :: r) us fs0 H fs' H') → Q v H1) → te σ H Q) →
        ∃ t : TS, PSs X (.Assign [.Attribute (.Name "self" pa) g pb] e pc :: b) t ∧ ∀ D σ H a C dx fs0 us, σ[0]? = some (some (.ref a)) → (∀ v, us = [v] → σ[1]? = some (some v)) → us.length ≤ 1 → us.length = nPar ((g, k) :: r) → H a = some (.ins C dx fs0) → Cls X.K C → (∀ f ∈ ((g, k) :: r).map (·.1), NoAttr X.K C f) → (∀ f ∈ ((g, k) :: r).map (·.1), f ∉ fs0.map (·.1)) → (((g, k) :: r).map (·.1)).Nodup → fs0.length + ((g, k) :: r).length < 1000 →
          (∀ fs H', IniR a C dx ((g, k) :: r) us fs0 H fs H' → D.nx σ H') → t D σ H := fun {te e pa pb pc} pe hn rd => by
        refine ⟨_, pss_cons (ps_fld (hv _) pe (no_swap hn)) pt, fun D σ H a C dx fs0 us h0 h1 hl e ha cl no nf nd few q => ?_⟩
        refine rd σ H _ us a C dx fs0 e hl h1 fun v H1 us' hl' e2 h1' keep tr => ?_
        rw [List.map_cons] at no nf nd
        have nd := List.nodup_cons.mp nd
        have n0 := nf _ List.mem_cons_self
        refine ⟨.ref a, h0, a, C, dx, fs0, rfl, keep _ _ ha, cl, no _ List.mem_cons_self, by simp at few; omega, ?_⟩
        rw [putF_new n0]
        refine ht D σ _ a C dx _ us' h0 h1' hl' e2 upd_same cl (fun y hg => no y (List.mem_cons_of_mem _ hg)) (fun y hg => ?_) nd.2 (by simp at few ⊢; omega) fun fs' H' r => q fs' H' (tr fs' H' r)
        rw [List.map_append, List.mem_append, not_or]
        refine ⟨nf y (List.mem_cons_of_mem _ hg), fun z => ?_⟩
        simp at z
        exact nd.1 (by rw [← z]; exact hg)
      cases k with
      | int n =>
        simp only [iniE] at he
        split at he
        · have he := beq_iff_eq.mp he
          subst he
          exact main pe_int rfl fun σ H Q us a C dx fs0 e hl h1 q => q _ H us hl e h1 (fun _ _ h => h) fun _ _ r => .int r
        · cases he
      | lst =>
        simp only [iniE] at he
        split at he
        · refine main (pe_lst pa_nil) rfl fun σ H Q us a C dx fs0 e hl h1 q => ⟨Nat.zero_le _, fun p hp => ?_⟩
          exact q _ _ us hl e h1 (fun b o h => by rw [upd_ne (ne_of_none h hp)]; exact h) fun _ _ r => .lst hp r
        · cases he
      | dct =>
        simp only [iniE] at he
        split at he
        · refine main pe_dnewK rfl fun σ H Q us a C dx fs0 e hl h1 q p hp => ?_
          exact q _ _ us hl e h1 (fun b o h => by rw [upd_ne (ne_of_none h hp)]; exact h) fun _ _ r => .dct hp r
        · cases he
      | par =>
        simp only [iniE] at he
        split at he
        · have he := beq_iff_eq.mp he
          refine main (hp _ he _) rfl fun σ H Q us a C dx fs0 e hl h1 q => ?_
          cases us with
          | nil => cases e
          | cons v us =>
            have hu : us = [] := by
              cases us with
              | nil => rfl
              | cons _ _ => simp at hl
            subst hu
            exact ⟨v, h1 v rfl, q v H [] (by simp) (by simp [nPar] at e ⊢; omega) (fun _ z => by cases z) (fun _ _ h => h) fun _ _ r => .par r⟩
        · cases he
    · cases h
section
variable {P : Program} {w : World} {K : PySem.W.Frag} {mg : Str → Option Value} {base : Heap}
theorem ini_fn {CX : CXT} {k : Nat} {x qual : Str} {fI : Addr} {fd : FuncData} {params : Arguments} {body : List Stmt} {sc : Scope} {par : Option Str} {ini : List (Str × Fi)} (FD : FunD K x qual params body sc [] [] fI fd) (S : FnScope ("self" :: par.toList) ("self" :: par.toList) sc) (hb : iniB par ini body = true)
    (hv1 : sc.names.lookup ("self" : Str) = some .local) (hv2 : ∀ y, par = some y → sc.names.lookup y = some .local ∧ notDbgX y = true) (nd : (ini.map (·.1)).Nodup) (few : ini.length < 1000) : FnOk P w K mg base CX (k + 1) fI fd ("self" :: par.toList) (spIni K ini ("self" :: par.toList : List Str).length) := by
  refine FD.ok S (fun vs H Q E q => q.1) fun cdv A outer s H vs Q E room q => ?_
  obtain ⟨hl, a, us, C, dx, rfl, hu, e, ha, cl, no, q⟩ := q
  obtain ⟨t, pt, ht⟩ := ini_walk (X := cxOf CX P w K mg base ("self" :: par.toList) qual sc fI cdv A outer s H E) (par := par) (fun p => pe_var rfl (.inl hv1) (by decide) (by decide)) (fun y hy p => by
    obtain ⟨h1, h2⟩ := hv2 y hy
    unfold notDbgX at h2
    simp only [Bool.and_eq_true, Bool.not_eq_true'] at h2
    subst hy
    exact pe_var rfl (.inl h1) h2.1 h2.2) ini body hb
  refine ⟨t, pt, ht _ _ H a C dx [] us ?_ (fun v hv => ?_) hu e ha cl no (fun f _ => by simp) nd (by simpa using few) q⟩
  · rfl
  · subst hv
    cases par with
    | none => simp at hl
    | some y => rfl
end
/-- a class that may be made -/
structure MkC (X : Cx) (T : Pr) (cn : Str) (ini : List (Str × Fi)) : Prop where
  ex : ∃ (f : Addr) (fd : FuncData) (ps : List Str), Mk X.K (T.oc.at_ cn) f ∧ FnOk X.prog X.w X.K X.mg X.base (L2.CX X.prog X.w) 1 f fd ps (spIni X.K ini ps.length) ∧ Binds X.K fd ps [] ∧ X.mg cn = some (.ref (T.oc.at_ cn)) ∧ T.oc.kn cn (ini.map (·.1)) ∧ ps.length = nPar ini + 1
/-- where the argument's field stands -/
noncomputable def posN : List (Str × Fi) → Nat → Nat
  | [], k => k
  | (_, .par) :: _, k => k
  | _ :: r, k => posN r (k + 1)
theorem iniO_c {c : Str} : ∀ {ini : List (Str × Fi)} {ws : List FW} {o : Ob}, iniO c ini ws = some o → o.c = c ∧ o.fs.map (·.1) = ini.map (·.1) ∧ ws.length = nPar ini
  | [], [], o, e => by cases e; exact ⟨rfl, rfl, rfl⟩
  | [], _ :: _, o, e => by cases e
  | (f, .int n) :: r, ws, o, e => by
    simp only [iniO, Option.map_eq_some_iff] at e
    obtain ⟨o', e1, rfl⟩ := e
    obtain ⟨h1, h2, h3⟩ := iniO_c e1
    exact ⟨rfl, by rw [List.map_cons, List.map_cons, h2], h3⟩
  | (f, .lst) :: r, ws, o, e => by
    simp only [iniO, Option.map_eq_some_iff] at e
    obtain ⟨o', e1, rfl⟩ := e
    obtain ⟨h1, h2, h3⟩ := iniO_c e1
    exact ⟨rfl, by rw [List.map_cons, List.map_cons, h2], h3⟩
  | (f, .dct) :: r, ws, o, e => by
    simp only [iniO, Option.map_eq_some_iff] at e
    obtain ⟨o', e1, rfl⟩ := e
    obtain ⟨h1, h2, h3⟩ := iniO_c e1
    exact ⟨rfl, by rw [List.map_cons, List.map_cons, h2], h3⟩
  | (f, .par) :: r, [], o, e => by cases e
  | (f, .par) :: r, w :: ws, o, e => by
    simp only [iniO, Option.map_eq_some_iff] at e
    obtain ⟨o', e1, rfl⟩ := e
    obtain ⟨h1, h2, h3⟩ := iniO_c e1
    exact ⟨rfl, by rw [List.map_cons, List.map_cons, h2], by rw [List.length_cons, h3]; rfl⟩
/-- what stood stays; the object has its fields -/
theorem ini_keep {a C dx : Addr} {ini : List (Str × Fi)} {us : List V} {fs fs' : List (Str × V)} {H H' : Hp} (h : IniR a C dx ini us fs H fs' H') (ha : H a = some (.ins C dx fs)) : (∀ b o, b ≠ a → H b = some o → H' b = some o) ∧ H' a = some (.ins C dx fs') := by
  induction h with
  | nil => exact ⟨fun _ _ _ h => h, ha⟩
  | int _ ih =>
    obtain ⟨i1, i2⟩ := ih upd_same
    exact ⟨fun b o hb hh => i1 b o hb (by rw [upd_ne hb]; exact hh), i2⟩
  | par _ ih =>
    obtain ⟨i1, i2⟩ := ih upd_same
    exact ⟨fun b o hb hh => i1 b o hb (by rw [upd_ne hb]; exact hh), i2⟩
  | lst hp _ ih =>
    obtain ⟨i1, i2⟩ := ih upd_same
    exact ⟨fun b o hb hh => i1 b o hb (by rw [upd_ne hb, upd_ne (ne_of_none hh hp)]; exact hh), i2⟩
  | dct hp _ ih =>
    obtain ⟨i1, i2⟩ := ih upd_same
    exact ⟨fun b o hb hh => i1 b o hb (by rw [upd_ne hb, upd_ne (ne_of_none hh hp)]; exact hh), i2⟩
/-- the fields of a new object -/
theorem ini_fld {K : PySem.W.Frag} {ω' : Om} {c : Str} {x C dx : Addr} {ini : List (Str × Fi)} {us : List V} {fs fs' : List (Str × V)} {H H' : Hp} (h : IniR x C dx ini us fs H fs' H') : ∀ {k : Nat} {ws : List FW} {o : Ob}, H x = some (.ins C dx fs) → (∀ p, H p = none → ω' p = none) → iniO c ini ws = some o → (∀ v w, us = [v] → ws = [w] → FOk K ω' H' x (posN ini k) v w) → us.length ≤ 1 →
    ∃ fr, fs' = fs ++ fr ∧ FldOk K ω' H' x k fr o.fs := by
  have grow : ∀ {H : Hp} {a : Addr} {u : HO}, (∀ p, H p = none → ω' p = none) → ∀ p, upd H a u p = none → ω' p = none := fun {H a u} hf p hp => hf p (by
    by_cases z : p = a
    · rw [z, upd_same] at hp; cases hp
    · rw [upd_ne z] at hp; exact hp)
  induction h with
  | nil fs H =>
    intro k ws o _ _ eo _ _
    cases ws with
    | nil => cases eo; exact ⟨[], by simp, .nil⟩
    | cons _ _ => cases eo
  | @int f n r us fs fs' H H' h ih =>
    intro k ws o hx hf eo ha hl
    simp only [iniO, Option.map_eq_some_iff] at eo
    obtain ⟨o', e1, rfl⟩ := eo
    obtain ⟨fr, e2, q⟩ := ih (k := k + 1) upd_same (grow hf) e1 ha hl
    exact ⟨_, by rw [e2, List.append_assoc]; rfl, .cons (w := .val (.int n)) (Dq.int n) q⟩
  | @par f v r us fs fs' H H' h ih =>
    intro k ws o hx hf eo ha hl
    cases ws with
    | nil => cases eo
    | cons w ws =>
      simp only [iniO, Option.map_eq_some_iff] at eo
      obtain ⟨o', e1, rfl⟩ := eo
      have hu : us = [] := by
        cases us with
        | nil => rfl
        | cons _ _ => simp at hl
      subst hu
      obtain ⟨fr, e2, q⟩ := ih (k := k + 1) upd_same (grow hf) e1 (fun _ _ z => by cases z) (by simp)
      have l2 := (iniO_c e1).2.2
      have hw : ws = [] := by
        have key : ∀ {r : List (Str × Fi)} {fs fs' : List (Str × V)} {H H' : Hp} {us : List V}, IniR x C dx r us fs H fs' H' → us = [] → nPar r = 0 := fun {r fs fs' H H' us} h => by
          induction h with
          | nil => exact fun _ => rfl
          | int _ ih => exact fun z => ih z
          | par _ _ => exact fun z => by cases z
          | lst _ _ ih => exact fun z => ih z
          | dct _ _ ih => exact fun z => ih z
        rw [key h rfl] at l2
        exact List.length_eq_zero_iff.mp l2
      subst hw
      exact ⟨_, by rw [e2, List.append_assoc]; rfl, .cons (ha v w rfl rfl) q⟩
  | @lst f p r us fs fs' H H' hp h ih =>
    intro k ws o hx hf eo ha hl
    simp only [iniO, Option.map_eq_some_iff] at eo
    obtain ⟨o', e1, rfl⟩ := eo
    obtain ⟨fr, e2, q⟩ := ih (k := k + 1) upd_same (grow (grow hf)) e1 ha hl
    have px : p ≠ x := fun z => by rw [z, hx] at hp; cases hp
    have hp' : H' p = some (.lst []) := (ini_keep h upd_same).1 p _ px (by rw [upd_ne px, upd_same])
    exact ⟨_, by rw [e2, List.append_assoc]; rfl, .cons (w := .val (.list [])) (Dq.lst (.inl (by rw [hide_free (hf p hp)]; exact hp')) .nil) q⟩
  | @dct f p r us fs fs' H H' hp h ih =>
    intro k ws o hx hf eo ha hl
    simp only [iniO, Option.map_eq_some_iff] at eo
    obtain ⟨o', e1, rfl⟩ := eo
    obtain ⟨fr, e2, q⟩ := ih (k := k + 1) upd_same (grow (grow hf)) e1 ha hl
    exact ⟨_, by rw [e2, List.append_assoc]; rfl, .cons (w := .opq) True.intro q⟩
section
variable {n : Lv} {K : PySem.W.Frag} {G : Gh} {ω : Om} {σ : L2.St} {H : Hp} {c : Cfg}
theorem Rel.newQ {p : Addr} {o : HO} {q : Ow} (r : Rel n K G ω σ H c) (h : H p = none) : Rel n K G (setO ω p (some q)) σ (upd H p o) c := r.move (Stp.newO r.dom h) (OKeep.new h) fun i => Mv.newO r.dom h
/-- a new object, in no slot yet -/
theorem Rel.made {x dx : Addr} {o : HO} (r : Rel n K G ω σ H c) (hx : H x = none) (hd : H dx = none) (ne : dx ≠ x) : Rel n K G (setO ω x (some (.obj x 0))) σ (upd (upd H dx (.own x)) x o) c := (r.new hd).newQ (by rw [upd_ne (Ne.symm ne)]; exact hx)
/-- the object goes to slot i -/
theorem Rel.setNew {i : Nat} {x : Addr} {o : Ob} (R : Rel n K G ω σ H c) (hi : i ≠ 0) (hl : i < c.env.length) (h0 : G.H0 x = none) (q : OAt n.oc K ω H x o) : Rel n K G ω (σ.set i (some (.ref x))) H (setS c i (some (.obj o))) := by
  refine ⟨R.stp, fun j w e => ?_, by unfold setS; simp only [List.length_set]; exact R.len, R.okp⟩
  rcases getS_out e with ⟨e1, e2⟩ | ⟨ne, e2⟩
  · subst e1
    cases e2
    exact ⟨x, List.getElem?_set_self (by rw [← R.len]; exact hl), .inr ⟨h0, hi⟩, q⟩
  · exact (R.slot j w e2).at (List.getElem?_set_ne (Ne.symm ne))
end
/-- a new object with its fields, told of what stood -/
theorem ini_made {ω : Om} {H H' : Hp} {x dx C : Addr} {ini : List (Str × Fi)} {us : List V} {fs : List (Str × V)} (d : Dom ω H) (hx : H x = none) (hd : H dx = none) (ne : dx ≠ x) (ev : IniR x C dx ini us [] (upd (upd H dx (.own x)) x (.ins C dx [])) fs H') :
    (∀ b o, H b = some o → H' b = some o) ∧ H' x = some (.ins C dx fs) ∧ ∀ m, Stp m ω H (setO ω x (some (.obj x 0))) H' := by
  obtain ⟨k1, k2⟩ := ini_keep ev upd_same
  have old : ∀ b o, H b = some o → H' b = some o := fun b o h => k1 b o (ne_of_none h hx) (by rw [upd_ne (ne_of_none h hx), upd_ne (ne_of_none h hd)]; exact h)
  have ox := d.free hx
  have gr : ∀ a, H a ≠ none → H' a ≠ none := fun a e => by
    cases q : H a with
    | none => exact absurd q e
    | some u => rw [old a u q]; simp
  refine ⟨old, k2, fun m => ⟨fun a o e _ => old a o e, fun a e k => ?_, fun a q e => .inl ?_, gr, d, fun a q e => ?_⟩⟩
  · rw [setO_ne (fun z => e (by rw [z]; exact hx))]; exact k
  · rw [setO_ne (fun z => by rw [z, ox] at e; cases e)]; exact e
  · by_cases z : a = x
    · rw [z, k2]; simp
    · rw [setO_ne z] at e; exact gr a (d a q e)
section
variable {C : C0} {X : Cx}
/-- the end of x = C(..) -/
theorem mk_end {G : Gh} {ω : Om} {σ : L2.St} {Hs H H' : Hp} {c : Cfg} {i : Nat} {cn : Str} {ini : List (Str × Fi)} {us : List V} {ws : List FW} {fs : List (Str × V)} {o : Ob} {x dx : Addr} (R : Rel C.n C.K G ω σ H c) (hi : i ≠ 0) (hl : i < c.env.length) (hs : ∀ a, Hs a = none → G.H0 a = none) (hx : H x = none) (hd : H dx = none) (ne : dx ≠ x) (kn : C.T.oc.kn cn (ini.map (·.1)))
    (ev : IniR x (C.T.oc.at_ cn) dx ini us [] (upd (upd H dx (.own x)) x (.ins (C.T.oc.at_ cn) dx [])) fs H') (eo : iniO cn ini ws = some o) (hu : us.length ≤ 1) (ha : ∀ v w, us = [v] → ws = [w] → ∃ w', fwOf w' = some w ∧ RW C.K Hs ω H v w') :
    ∃ ω', Same (hide H ω) (hide H' ω') ∧ Rel C.n C.K G ω' (σ.set i (some (.ref x))) H' (setS c i (some (.obj o))) := by
  obtain ⟨old, hx', st⟩ := ini_made R.dom hx hd ne ev
  have kO : OKeep none ω H H' := fun a u y k _ _ _ e => old a u e
  have R2 : Rel C.n C.K G (setO ω x (some (.obj x 0))) σ H' c := R.step (st 0) (Nat.succ_pos _) kO
  have s2 := st 0
  obtain ⟨ec, en, _⟩ := iniO_c eo
  have h0 := R.old hx
  have free : ∀ p, upd (upd H dx (.own x)) x (HO.ins (C.T.oc.at_ cn) dx []) p = none → p ≠ x ∧ H p = none := fun p hp => by
    have px : p ≠ x := fun z => by rw [z, upd_same] at hp; cases hp
    rw [upd_ne px] at hp
    exact ⟨px, by
      by_cases z : p = dx
      · rw [z, upd_same] at hp; cases hp
      · rw [upd_ne z] at hp; exact hp⟩
  have simple : (∀ v w, us = [v] → ws = [w] → FOk C.K (setO ω x (some (.obj x 0))) H' x (posN ini 1) v w) → ∃ ω', Same (hide H ω) (hide H' ω') ∧ Rel C.n C.K G ω' (σ.set i (some (.ref x))) H' (setS c i (some (.obj o))) := fun hf => by
    obtain ⟨fr, e1, q⟩ := ini_fld (K := C.K) (ω' := setO ω x (some (.obj x 0))) ev upd_same (fun p hp => by
      obtain ⟨px, hp⟩ := free p hp
      rw [setO_ne px]
      exact R.dom.free hp) eo hf hu
    rw [List.nil_append] at e1
    subst e1
    exact ⟨_, s2.same, R2.setNew hi hl h0 ⟨setO_same, dx, fs, by rw [hx', ec], q, by rw [ec, en]; exact kn⟩⟩
  by_cases hown : ∃ v ds, us = [v] ∧ ws = [.own ds]
  · obtain ⟨v, ds, rfl, rfl⟩ := hown
    obtain ⟨w', ew, q⟩ := ha v _ rfl rfl
    cases w' with
    | own ds' =>
      cases ew
      obtain ⟨b, vs, rfl, ob, hb0, hb, r⟩ := q
      have bx : b ≠ x := ne_of_none hb hx
      have ob2 : setO ω x (some (.obj x 0)) b = some .tmp := by rw [setO_ne bx]; exact ob
      have hb2 : H' b = some (.lst vs) := old b _ hb
      have hh : hide H' (setO (setO ω x (some (.obj x 0))) b (some (.obj x (posN ini 1)))) = hide H' (setO ω x (some (.obj x 0))) := hide_tag ob2
      have R3 : Rel C.n C.K G (setO (setO ω x (some (.obj x 0))) b (some (.obj x (posN ini 1)))) σ H' c :=
        ⟨R2.stp.retag (hs b hb0) (by rw [hb2]; simp), fun j w e => (R2.slot j w e).move (Mv.tag (by rw [hh]; exact fun _ _ h => h) (by rw [ob2]; intro z; cases z) (by rw [ob2]; intro x k z; cases z)), R2.len, R2.okp⟩
      obtain ⟨fr, e1, q⟩ := ini_fld (K := C.K) (ω' := setO (setO ω x (some (.obj x 0))) b (some (.obj x (posN ini 1)))) ev upd_same (fun p hp => by
        obtain ⟨px, hp⟩ := free p hp
        rw [setO_ne (fun z => by rw [z, hb] at hp; cases hp), setO_ne px]
        exact R.dom.free hp) eo (fun v w e1 e2 => by
          cases e1; cases e2
          exact ⟨b, vs, rfl, setO_same, hb2, by rw [hh]; exact dps_mono s2.same _ _ r⟩) hu
      rw [List.nil_append] at e1
      subst e1
      exact ⟨_, by rw [hh]; exact s2.same, R3.setNew hi hl h0 ⟨by rw [setO_ne (Ne.symm bx)]; exact setO_same, dx, fs, by rw [hx', ec], q, by rw [ec, en]; exact kn⟩⟩
    | val _ => cases ew
    | exc _ _ => cases ew
    | obj _ => cases ew
    | lnt _ _ => cases ew
  · refine simple fun v w e1 e2 => ?_
    cases w with
    | opq => exact True.intro
    | own ds => exact absurd ⟨v, ds, e1, e2⟩ hown
    | val d =>
      obtain ⟨w', ew, q⟩ := ha v _ e1 e2
      cases w' with
      | val d' => cases ew; exact dp_mono s2.same _ _ q
      | own _ => cases ew
      | exc _ _ => cases ew
      | obj _ => cases ew
      | lnt _ _ => cases ew
theorem noPass {X : Cx} : Passes (L2.CX X.prog X.w) X (fun _ _ _ => False) := fun pins σ H s e t I z => by
  obtain ⟨_, _, _, _, _, _, _, _, _, _, _, _, z⟩ := z
  exact z.elim
/-- what __init__ asks -/
theorem mk_ini {ini : List (Str × Fi)} {us : List V} {H : Hp} {x dx : Addr} {Q : VK} {E : XK} {cn : Str} {np : Nat} (kn : KnOk X.K C.T.oc) (hk : C.T.oc.kn cn (ini.map (·.1))) (hnp : np = nPar ini + 1) (hu : us.length ≤ 1) (hl : us.length = nPar ini)
    (q : ∀ fs H', IniR x (C.T.oc.at_ cn) dx ini us [] (upd (upd H dx (.own x)) x (.ins (C.T.oc.at_ cn) dx [])) fs H' → Q (.ref x) H') : spIni X.K ini np (.ref x :: (us ++ [])) (upd (upd H dx (.own x)) x (.ins (C.T.oc.at_ cn) dx [])) (fun v H2 => v = .non ∧ Q (.ref x) H2) E := by
  rw [List.append_nil]
  exact ⟨by rw [List.length_cons, hl, hnp], x, us, C.T.oc.at_ cn, dx, rfl, hu, hl, upd_same, kn.cls _ _ hk, fun f hf => kn.no _ _ hk f hf, fun fs H' e => ⟨rfl, q fs H' e⟩⟩
theorem ps_mk {i : Nat} {cn y : Str} {ini : List (Str × Fi)} {ms : Exs} {es : List Expr} {py pc pp pos : Pos} (hK : X.K = C.K) (kn : KnOk X.K C.T.oc) (M : MkC X C.T cn ini) (hr : Room 2 X.A) (hg : Gl X cn) (hdb : (cn == ("__debug__" : Str)) = false) (hN : X.N.Nodup) (hi : X.N[i]? = some y) (hx : Loc X.env.scope y) (hf : X.fn y = true ∨ X.env.scope.names.lookup y = some .local)
    (ha : (es = [] ∧ ms = .nil) ∨ ∃ e m, es = [e] ∧ ms = .cons m .nil ∧ SE C X m e ∧ notStar e = true) : PS X (.Assign [.Name y py] (.Call (.Name cn pc) es [] pp) pos) (tS C (exS C.k (.mk i cn ini ms))) := by
  obtain ⟨f, fd, ps, mk, Fo, hb, hm, hk, hps⟩ := M.ex
  have pre : ∀ {D : Ends} {σ : L2.St} {H : Hp} {G : Gh} {ω : Om} {c : Cfg}, PostS C G ω H (exS C.k (.mk i cn ini ms) c) D → (noObj c.env && decide (0 < i) && decide (i < c.env.length)) = true ∧ PostS C G ω H ((denWs C.k ms c).bind fun ws cf => (match iniO cn ini ws with
      | some o => if noObj cf.env then .ok .nx (setS cf i (some (.obj o))) else .no
      | none => .no)) D := fun {D σ H G ω c} p => by
    simp only [exS] at p
    by_cases hz : (noObj c.env && decide (0 < i) && decide (i < c.env.length)) = true
    · rw [if_pos hz] at p; exact ⟨hz, p⟩
    · rw [if_neg hz] at p; exact p.elim
  rcases ha with ⟨rfl, rfl⟩ | ⟨e, m, rfl, rfl, se, hst⟩
  · refine ps_imp (ps_set hN hi hx (pe_make0 (dvs := []) mk Fo hr hg hm hb .nil noPass hdb) (no_swap rfl) hf) fun D σ H ⟨G, ω, c, R, p⟩ => ?_
    obtain ⟨hz, p⟩ := pre (σ := σ) p
    simp only [Bool.and_eq_true, decide_eq_true_eq] at hz
    simp only [denWs, Rs.bind_ok] at p
    intro x dx nx nd ne
    cases eo : iniO cn ini [] with
    | none => rw [eo] at p; exact p.elim
    | some o =>
      rw [eo] at p
      dsimp only at p
      rw [if_pos hz.1.1] at p
      refine mk_ini (Q := fun x H1 => gName i x σ H1 D.nx) (us := []) kn hk hps (by simp) (iniO_c eo).2.2 fun fs H9 e => ?_
      obtain ⟨ω2, sm, R2⟩ := mk_end (Hs := H) (us := []) (ws := []) R (i := i) (Nat.pos_iff_ne_zero.mp hz.1.2) hz.2 (fun a h => R.old h) nx nd ne hk e eo (by simp) (fun v w z => by cases z)
      exact p ω2 _ _ sm R2
  · refine ps_imp (ps_set hN hi hx (pe_make (dvs := []) mk Fo hr hg hm hb .nil noPass (pa_cons se.w pa_nil (star_of hst)) hdb (star_of hst) rfl) (no_swap rfl) hf) fun D σ H ⟨G, ω, c, R, p⟩ => ⟨G, ω, c, R, ?_⟩
    obtain ⟨hz, p⟩ := pre (σ := σ) p
    simp only [Bool.and_eq_true, decide_eq_true_eq] at hz
    simp only [denWs, Rs.bind_assoc] at p
    refine p.bind fun w c1 ω1 H1 v s1 R1 q1 p1 => ?_
    cases ew : fwOf w with
    | none => rw [ew] at p1; exact p1.elim
    | some fw =>
      rw [ew] at p1
      simp only [Rs.bind_ok] at p1
      intro x dx nx nd ne
      cases eo : iniO cn ini [fw] with
      | none => rw [eo] at p1; exact p1.elim
      | some o =>
        rw [eo] at p1
        dsimp only at p1
        by_cases hno : noObj c1.env = true
        · rw [if_pos hno] at p1
          refine mk_ini (Q := fun x H1 => gName i x σ H1 D.nx) (us := [v]) kn hk hps (by simp) (iniO_c eo).2.2 fun fs H9 e => ?_
          obtain ⟨ω2, sm, R2⟩ := mk_end (Hs := H) (us := [v]) (ws := [fw]) R1 (i := i) (Nat.pos_iff_ne_zero.mp hz.1.2) (by rw [R1.len, ← R.len]; exact hz.2) (fun a h => R.old h) nx nd ne hk e eo (by simp) (fun v' w' e1 e2 => by cases e1; cases e2; exact ⟨w, ew, q1⟩)
          exact p1 ω2 _ _ sm R2
        · rw [if_neg hno] at p1; exact p1.elim
end
end Rp

/-! Rp, part Q: C().m(..). -/
namespace Rp
open PySem PySem.Spec PyProof.Rows L2
noncomputable def tLs (K : PySem.W.Frag) (i : Nat) : TE := fun σ H Q => ∃ v, σ[i]? = some (some v) ∧ ∃ a xs, v = .ref a ∧ (SqL K H a xs ∨ SqT K H a xs) ∧ ∀ p, H p = none → Q (.ref p) (upd H p (.lst xs))
noncomputable def tAts (K : PySem.W.Frag) : List (Nat × Bool) → TA
  | [] => tNil
  | (i, false) :: r => tCons (tVar i) (tAts K r)
  | (i, true) :: r => tCons (tLs K i) (tAts K r)
inductive AtE (X : Cx) : List (Nat × Bool) → List Expr → Prop
  | nil : AtE X [] []
  | var {i : Nat} {r : List (Nat × Bool)} {x : Str} {p : Pos} {es : List Expr} : PE X (.Name x p) (tVar i) → AtE X r es → AtE X ((i, false) :: r) (.Name x p :: es)
  | lst {i : Nat} {r : List (Nat × Bool)} {x : Str} {p q q2 : Pos} {es : List Expr} : PE X (.Name x p) (tVar i) → Gl X "list" → X.mg "list" = none → AtE X r es → AtE X ((i, true) :: r) (.Call (.Name "list" q) [.Name x p] [] q2 :: es)
theorem AtE.pa {X : Cx} {as : List (Nat × Bool)} {es : List Expr} (h : AtE X as es) : PA X es (tAts X.K as) ∧ es.all notStar = true ∧ es.length = as.length := by
  induction h with
  | nil => exact ⟨pa_nil, rfl, rfl⟩
  | var hv _ ih => exact ⟨pa_cons hv ih.1 rfl, by rw [List.all_cons, ih.2.1]; rfl, by rw [List.length_cons, List.length_cons, ih.2.2]⟩
  | lst hv hg hm _ ih =>
    refine ⟨pa_cons (pe_imp (pe_callTy call_list_of hg hm (by decide +kernel) (pa_cons hv pa_nil)) fun σ H Q h => ?_) ih.1 rfl, by rw [List.all_cons, ih.2.1]; rfl, by rw [List.length_cons, List.length_cons, ih.2.2]⟩
    obtain ⟨v, e, a, xs, rfl, hs, q⟩ := h
    exact ⟨_, e, a, xs, rfl, hs, q⟩
section
variable {n : Lv} {K : PySem.W.Frag} {G : Gh} {ω : Om} {σ : L2.St} {c : Cfg} {oc : OC} {x : Addr} {o : Ob}
theorem ats_ok : ∀ {as : List (Nat × Bool)} {ds : List D} {H : Hp} {Q : List V → Hp → Prop}, atsD c as = some ds → Rel n K G ω σ H c → OAt oc K ω H x o → (∀ H' vs, Rel n K G ω σ H' c → OAt oc K ω H' x o → Stp n.n ω H ω H' → (∀ m, Stp m ω H ω H') → OKeep none ω H H' → DqAll K (hide H' ω) vs ds → Q vs H') → tAts K as σ H Q
  | [], ds, H, Q, e, R, oa, q => by cases e; exact q H [] R oa (Stp.refl R.dom) (fun _ => Stp.refl R.dom) OKeep.refl .nil
  | (i, b) :: r, ds, H, Q, e, R, oa, q => by
    unfold atsD at e
    split at e
    · rename_i d ds' e1 e2
      obtain ⟨v, ev, hv⟩ := R.slot i _ e1
      cases b with
      | false =>
        simp only [Bool.false_eq_true, if_false, Option.some.injEq] at e
        subst e
        exact ⟨v, ev, ats_ok e2 R oa fun H' vs R' oa' s sm k h => q H' (v :: vs) R' oa' s sm k (.cons (dp_mono s.same _ _ hv) h)⟩
      | true =>
        simp only [if_true] at e
        have go : ∀ {a : Addr} {xs : List V} {l : List D}, v = .ref a → (SqL K H a xs ∨ SqT K H a xs) → DqAll K (hide H ω) xs l → ds = .list l :: ds' → tAts K ((i, true) :: r) σ H Q := fun {a xs l} e3 hs hq ed => by
          subst ed
          refine ⟨v, ev, a, xs, e3, hs, fun p hp => ?_⟩
          have sp : ∀ m, Stp m ω H ω (upd H p (.lst xs)) := fun m => Stp.new R.dom hp
          have oa2 : OAt oc K ω (upd H p (.lst xs)) x o := oa.move (sp 0).same fun b k u e1 _ e2 => ⟨e1, by rw [upd_ne (ne_of_none e2 hp)]; exact e2⟩
          refine ats_ok e2 (R.new hp) oa2 fun H' vs R' oa' s sm k h => q H' (.ref p :: vs) R' oa' ((sp _).trans s) (fun m => (sp m).trans (sm m)) ((OKeep.new hp).trans (sp 0) k) (.cons ?_ h)
          refine dp_mono s.same _ _ (.lst (Rd.of ?_) (dps_mono (sp 0).same _ _ hq))
          rw [hide_free (R.dom.free hp), upd_same]
        cases d with
        | list l =>
          cases hv with
          | lst rd rq => exact go rfl (.inl (.inl (rd_mono hide_same rd))) rq (Option.some.inj e).symm
        | tuple l =>
          cases hv with
          | tup rd rq => exact go rfl (.inr (same_sqT hide_same rd)) rq (Option.some.inj e).symm
        | _ => cases e
    · cases e
end
section
variable {C : C0} {X : Cx}
theorem se_newm {f : Nat} {fn : Fn} {cn m : Str} {ini : List (Str × Fi)} {as : List (Nat × Bool)} {es : List Expr} {pc pp apos pos : Pos} (hK : X.K = C.K) (kn : KnOk X.K C.T.oc) (ht : C.T.tab f = some fn) (F : CallM X C.T C.m f fn (Meth X.K (C.T.oc.at_ cn) m)) (M : MkC X C.T cn ini)
    (hr : Room (C.m + 4) X.A) (pass : ∀ σ, PassesAt (L2.CX X.prog X.w) X σ (WE C.W σ)) (hg : Gl X cn) (hdb : (cn == ("__debug__" : Str)) = false) (hsu : (cn != ("super" : Str)) = true) (ha : AtE X as es) (hl : es.length < 29) (hp : (apos.endLine == pos.line) = true) :
    SE C X (.newm cn ini m f as) (.Call (.Attribute (.Call (.Name cn pc) [] [] pp) m apos) es [] pos) := by
  obtain ⟨fa, fd, ps, hnp, Fo, hm, hb⟩ := F.ex
  obtain ⟨fI, fdI, psI, mk, FI, hbI, hmg, hk, hps⟩ := M.ex
  obtain ⟨pa, hst, _⟩ := ha.pa
  have cl := kn.cls _ _ hk
  have rc := pe_make0 (p := pc) (pos := pp) (dvs := []) mk FI (hr.mono (by omega)) hg hmg hbI .nil noPass hdb
  have core := show PE X (.Call (.Attribute (.Call (.Name cn pc) [] [] pp) m apos) es [] pos) (tMt (C.T.oc.at_ cn) m (spM C.T X.K C.m f ps.length) (WE C.W) _ (tAts X.K as)) from by
    cases ha with
    | nil => exact pe_mt0 rc (abase_call hsu) cl hm Fo hr hb pass hp
    | var hv r => exact pe_mt rc (abase_call hsu) cl hm Fo hr hb pass pa hst hl hp
    | lst hv g1 g2 r => exact pe_mt rc (abase_call hsu) cl hm Fo hr hb pass pa hst hl hp
  refine .of hK rfl (fun _ => rfl) (fun _ => rfl) (pe_imp core fun σ H Q ⟨G, ω, c, R, p⟩ => ?_)
  · simp only [den, Den.of] at p
    cases eo : iniO cn ini [] with
    | none => rw [eo] at p; exact p.elim
    | some o =>
      cases ed : atsD c as with
      | none => rw [eo, ed] at p; exact p.elim
      | some ds =>
        rw [eo, ed] at p
        dsimp only at p
        by_cases hz : (ofF o m).isNone = true
        · rw [if_pos hz] at p
          rw [Option.isNone_iff_eq_none] at hz
          intro x dx nx nd ne
          obtain ⟨ec, en, el⟩ := iniO_c eo
          refine mk_ini (Q := fun z H1 => ∃ a dx fs, z = .ref a ∧ H1 a = some (.ins (C.T.oc.at_ cn) dx fs) ∧ fs.lookup m = none ∧ tAts X.K as σ H1 fun vs H2 => spM C.T X.K C.m f ps.length (z :: vs) H2 Q (WE C.W σ)) (us := []) kn hk hps (by simp) el fun fs H9 e => ?_
          obtain ⟨oldc, hx9, s2⟩ := ini_made R.dom nx nd ne e
          have R2 : Rel C.n C.K G (setO ω x (some (.obj x 0))) σ H9 c := R.step (s2 0) (Nat.succ_pos _) fun a u y k _ _ _ e => oldc a u e
          have free : ∀ p, upd (upd H dx (.own x)) x (HO.ins (C.T.oc.at_ cn) dx []) p = none → setO ω x (some (.obj x 0)) p = none := fun p hp => by
            have px : p ≠ x := fun z => by rw [z, upd_same] at hp; cases hp
            rw [upd_ne px] at hp
            rw [setO_ne px]
            exact R.dom.free (by
              by_cases z : p = dx
              · rw [z, upd_same] at hp; cases hp
              · rw [upd_ne z] at hp; exact hp)
          obtain ⟨fr, e1, fl⟩ := ini_fld (K := C.K) (k := 1) e upd_same free eo (fun v w z => by cases z) (by simp)
          rw [List.nil_append] at e1
          subst e1
          have oa : OAt C.T.oc C.K (setO ω x (some (.obj x 0))) H9 x o := ⟨setO_same, dx, fs, by rw [hx9, ec], fl, by rw [ec, en]; exact hk⟩
          refine ⟨x, dx, fs, rfl, hx9, fl.none hz, ?_⟩
          rw [hK]
          refine ats_ok ed R2 oa fun H' vs R' oa' s sm k h => ?_
          cases er : C.k.m f o ds with
          | none => rw [er] at p; exact p.elim
          | some r =>
            rw [er] at p
            obtain ⟨r, o'⟩ := r
            refine ⟨?_, x, vs, _, o, ds, rfl, R'.dom, oa', h, ?_⟩
            · rw [List.length_cons, dps_len h, callM_args ht er]; exact hnp.symm
            · rw [show (callN C.T.tab C.m).m f o ds = some (r, o') from er]
              have keep : ∀ {ω3 : Om} {H3 : Hp}, OKeep (some x) (setO ω x (some (.obj x 0))) H' H3 → OKeep none ω H H3 := fun {ω3 H3} k3 b u y j e1 e2 _ e4 => by
                have yx : y ≠ x := fun z => e2 (by rw [z]; exact nx)
                have e1' : setO ω x (some (.obj x 0)) b = some (.obj y j) := by rw [setO_ne (ne_of_none e4 nx)]; exact e1
                refine k3 b u y j e1' ?_ (fun z => yx (Option.some.inj z)) (k b u y j e1' ((s2 0).grow y e2) (fun z => by cases z) (oldc b u e4))
                exact (sm 0).grow y ((s2 0).grow y e2)
              have old : ∀ {a : Addr}, H' a = none → H a = none := fun {a} e => by
                cases q : H a with
                | none => rfl
                | some u => exact absurd e ((sm 0).grow a ((s2 0).grow a (by rw [q]; simp)))
              cases r with
              | inl w =>
                intro ω' H3 v s3 k3 oa3 q3
                have st := ((s2 C.m).trans (sm C.m)).trans s3
                refine p ω' H3 v (st.mono (Nat.le_succ _)) (R.step st (Nat.lt_succ_self _) (keep (ω3 := ω') k3)) ?_
                cases w with
                | val d => exact q3
                | own ds => obtain ⟨a, us, h1, h2, h3, h4⟩ := q3; exact ⟨a, us, h1, h2, old h3, h4⟩
                | exc _ _ => exact q3
                | obj _ => exact q3
                | lnt _ _ => exact q3
              | inr y =>
                intro ω' H3 d s3 k3 oa3 q3
                have st := ((s2 C.m).trans (sm C.m)).trans s3
                exact p ω' H3 d (st.mono (Nat.le_succ _)) (R.step st (Nat.lt_succ_self _) (keep (ω3 := ω') k3)) q3
        · rw [if_neg hz] at p; exact p.elim
end
end Rp

/-! Rp, part L: lists that are lent to a def. -/
namespace Rp
open PySem PySem.Spec PyProof.Rows L2
theorem getL_get {c : Cfg} {i : Nat} {p : Bool × List D} (h : getL c i = some p) : getS c i = some (.lnt p.1 p.2) := by
  unfold getL at h
  split at h
  · rename_i e; cases h; exact e
  · cases h
section
variable {n : Lv} {K : PySem.W.Frag} {G : Gh} {ω ω' : Om} {σ : L2.St} {H H' : Hp} {c : Cfg} {i : Nat} {a : Addr} {b : Bool} {ds ds' : List D}
/-- the lent list of a slot has another state -/
theorem Rel.setLn (R : Rel n K G ω σ H c) (hs : soleO i 0 c.env = true) (ho : getS c i = some (.lnt b ds)) (ha : σ[i]? = some (some (.ref a))) (s : Stp n.n ω H ω' H') (ow : ∀ j b vs, ω b = some (.slot n.n j) → H b = some (.lst vs) → ω' b = some (.slot n.n j) ∧ H' b = some (.lst vs))
    (k : OKeep (some a) ω H H') (q : LAt K ω' H' a ds') : Rel n K G ω' σ H' (setS c i (some (.lnt b ds'))) := by
  obtain ⟨a', e1, g, _⟩ := R.slot i _ ho
  rw [ha] at e1
  cases e1
  refine ⟨R.stp.trans s, fun j w e => ?_, by unfold setS; rw [List.length_set]; exact R.len, fun b o2 x k2 e1 e2 e3 e4 => ?_⟩
  · rcases getS_out e with ⟨e1, e2⟩ | ⟨ne, e2⟩
    · subst e1
      cases e2
      exact ⟨a, ha, g, q⟩
    · exact (R.slot j w e2).moveN (by
        cases hv : w.heavy with
        | false => rfl
        | true => exact absurd (sole_neW hs e2 hv) ne) s.same (ow j)
  · refine k b o2 x k2 ?_ (R.stp.grow x e2) ?_ (R.okp b o2 x k2 e1 e2 e3 e4)
    · rcases R.stp.own b _ e1 with z | ⟨_, _, z, _⟩
      · exact z
      · cases z
    · intro z
      cases z
      rcases g with ⟨g, _⟩ | ⟨g, _⟩
      · exact e3 g.symm
      · exact e2 g
/-- x = a new list, to be lent -/
theorem Rel.setLw {C : C0} {Hs : Hp} {x : V} {ds : List D} (R : Rel C.n C.K G ω σ H c) (q : RW C.K Hs ω H x (.own ds)) (h0 : ∀ a, Hs a = none → G.H0 a = none) :
    ∃ ω', Same (hide H ω) (hide H ω') ∧ Rel C.n C.K G ω' (σ.set i (some x)) H (setS c i (some (.lnt false ds))) := by
  obtain ⟨a, vs, rfl, o, ha, h1, r⟩ := q
  have hh : hide H (setO ω a (some (.obj a 0))) = hide H ω := hide_tag o
  refine ⟨setO ω a (some (.obj a 0)), by rw [hh]; exact fun _ _ h => h, R.stp.retag (h0 a ha) (by rw [h1]; simp), fun j w' e => ?_, by unfold setS; rw [List.length_set, List.length_set]; exact R.len, R.okp⟩
  rcases getS_out e with ⟨e1, e2⟩ | ⟨ne, e2⟩
  · subst e1
    cases e2
    have := getS_lt e
    unfold setS at this
    rw [List.length_set, R.len] at this
    exact ⟨a, List.getElem?_set_self this, .inr ⟨h0 a ha, rfl⟩, setO_same, vs, h1, by rw [hh]; exact r⟩
  · exact ((R.slot j w' e2).move (Mv.tag (by rw [hh]; exact fun _ _ h => h) (by rw [o]; intro z; cases z) (by rw [o]; intro x k z; cases z))).at (List.getElem?_set_ne (Ne.symm ne))
end
section
variable {C : C0} {X : Cx}
theorem ps_asgL {i : Nat} {m : Ex} {x : Str} {e : Expr} {pos pos' : Pos} (hN : X.N.Nodup) (hi : X.N[i]? = some x) (hx : Loc X.env.scope x) (hf : X.fn x = true ∨ X.env.scope.names.lookup x = some .local) (hs : swapsWith e (some (.Name x pos')) pos.line X.env = pure false) (h : SE C X m e) :
    PS X (.Assign [.Name x pos'] e pos) (tS C (exS C.k (.asgL i m))) := ps_imp (ps_set hN hi hx h.w hs hf) fun D σ H ⟨G, ω, c, R, p⟩ => ⟨G, ω, c, R, by
  simp only [exS] at p
  refine p.bind fun w c1 ω1 H1 x s1 R1 q1 p1 => ?_
  cases w with
  | own ds =>
    obtain ⟨ω2, sm, R2⟩ := R1.setLw (i := i) q1 (fun a h => R.old h)
    exact p1 ω2 _ H1 sm R2
  | _ => exact p1.elim⟩
/-- x[e] of a lent list -/
theorem se_ixL {i : Nat} {m : Ex} {x : Str} {e : Expr} {p1 pos : Pos} (hK : X.K = C.K) (hv : PE X (.Name x p1) (tVar i)) (hns : NoSl e) (h : SE C X m e) : SE C X (.ixL i m) (.Subscript (.Name x p1) e pos) := by
  refine .of hK rfl (fun _ => rfl) (fun _ => rfl) (pe_imp (pe_ix ix_list hv h.v hns) fun σ H Q ⟨G, ω, c, R, p⟩ => ?_)
  simp only [den, Den.of] at p
  cases eo : getL c i with
  | none => rw [eo] at p; exact p.elim
  | some t =>
    rw [eo] at p
    dsimp only at p
    obtain ⟨a, e1, g, _⟩ := R.slot i _ (getL_get eo)
    refine ⟨.ref a, e1, G, ω, c, R, p.bind fun d c1 ω1 H1 v _ s1 R1 q1 p1 => ?_⟩
    cases eo1 : getL c1 i with
    | none => rw [eo1] at p1; cases d <;> exact p1.elim
    | some t1 =>
      rw [eo1] at p1
      obtain ⟨a', e2, _, _, vs, h1, r⟩ := R1.slot i _ (getL_get eo1)
      rw [e1] at e2
      cases e2
      cases d with
      | int j =>
        dsimp only at p1
        cases q1
        cases ed : ixD t1.2 j with
        | none => rw [ed] at p1; exact p1.elim
        | some d =>
          rw [ed] at p1
          obtain ⟨z, e5, q7⟩ := atI_dps r ed
          exact ⟨a, vs, j, z, rfl, rfl, SqL.of h1, e5, p1 ω1 H1 z (Stp.refl R1.dom) R1 q7⟩
      | _ => exact p1.elim
/-- x[k] = e of a lent list -/
theorem ps_sixL {i : Nat} {mk m : Ex} {x : Str} {e ek : Expr} {p1 p2 pos : Pos} (hv : PE X (.Name x p1) (tVar i)) (hnc : noComp e = true) (hnk : ∀ v, assign (.Subscript (.Name x p1) ek p2) X.env v = (do
      let ov ← holding [v] (eval (.Name x p1) X.env)
      let iv ← holding [v, ov] (eval ek X.env)
      standAt p2
      holding [v, ov, iv] (setItem ov iv v)
      release [v, ov, iv] [])) (hk : SE C X mk ek) (h : SE C X m e) :
    PS X (.Assign [.Subscript (.Name x p1) ek p2] e pos) (tS C (exS C.k (.sixL i mk m))) := by
  refine ps_imp (ps_asg h.v (pg_sub hv hk.v set_list hnk) (by unfold swapsWithSole; exact no_swap hnc) ?_ rfl) fun D σ H ⟨G, ω, c, R, p⟩ => ⟨G, ω, c, R, ?_⟩
  · unfold swappedStores
    cases e <;> rfl
  · simp only [exS] at p
    refine p.bind fun d c1 ω1 H1 y s1 R1 q1 p1 => ?_
    cases e0 : getL c1 i with
    | none => rw [e0] at p1; exact p1.elim
    | some w =>
      rw [e0] at p1
      dsimp only at p1
      obtain ⟨a, ea, _, _⟩ := R1.slot i _ (getL_get e0)
      refine ⟨.ref a, ea, G, ω1, c1, R1, p1.bind fun b c2 ω2 H2 z s2 R2 q2 p2 => ?_⟩
      cases e2 : getL c2 i with
      | none => rw [e2] at p2; cases b <;> exact p2.elim
      | some w =>
        rw [e2] at p2
        obtain ⟨b', e1, _, o, us, h1, r⟩ := R2.slot i _ (getL_get e2)
        rw [ea] at e1
        cases e1
        cases b with
        | int j =>
          dsimp only at p2
          cases q2
          by_cases hz : (decide (0 ≤ j) && decide (j < (w.2.length : Int)) && soleO i 0 c2.env) = true
          · rw [if_pos hz] at p2
            simp only [Bool.and_eq_true, decide_eq_true_eq] at hz
            refine ⟨a, us, j, j.toNat, rfl, rfl, h1, ?_, ?_⟩
            · unfold ixN
              rw [if_pos hz.1.1, if_pos (by rw [dps_len r]; exact hz.1.2)]
            · have s : Stp C.n.n ω2 H2 ω2 (upd H2 a (.lst (us.set j.toNat y))) := Stp.ob R2.dom o
              have hh : hide (upd H2 a (.lst (us.set j.toNat y))) ω2 = hide H2 ω2 := hide_upd o
              refine p2 ω2 σ _ s.same (R2.setLn hz.2 (getL_get e2) ea s (fun j p vs e1 e2 => ⟨e1, by rw [upd_ne (fun z => by rw [z, o] at e1; cases e1)]; exact e2⟩) (fun p o2 x k2 e1 e2 e3 e4 => ?_) ⟨o, _, upd_same, by rw [hh]; exact dps_set (RV.step q1 s2) j.toNat r⟩)
              rw [upd_ne (fun z => ?_)]
              · exact e4
              · rw [z, o] at e1
                cases e1
                exact e3 rfl
          · rw [if_neg hz] at p2; exact p2.elim
        | _ => exact p2.elim
/-! ### calls -/
noncomputable def PostL (T : Pr) (K : PySem.W.Frag) (n : Nat) (a : Addr) (ω : Om) (H : Hp) (r : Option (Sum W Exn × List D)) (Q : VK) (E : XK) : Prop := match r with
  | some (.inl w, ds) => ∀ ω' H' v, Stp n ω H ω' H' → OKeep (some a) ω H H' → LAt K ω' H' a ds → RW K H ω' H' v w → Q v H'
  | some (.inr x, ds) => ∀ ω' H' d, Stp n ω H ω' H' → OKeep (some a) ω H H' → LAt K ω' H' a ds → Pay T K x d ω' H' → E (T.cls x.c) d H'
  | none => False
noncomputable def spL (T : Pr) (K : PySem.W.Frag) (n : Nat) (f : Nat) (np : Nat) : Sp := fun vs H Q E => vs.length = np ∧ ∃ a v0 v2 ω ds d0 d2, vs = [v0, .ref a, v2] ∧ Dom ω H ∧ LAt K ω H a ds ∧ Dq K (hide H ω) v0 d0 ∧ Dq K (hide H ω) v2 d2 ∧ PostL T K n a ω H ((callN T.tab n).l f d0 ds d2) Q E
structure CallL (X : Cx) (T : Pr) (n : Nat) (f : Nat) (x : Str) (fn : Fn) : Prop where
  ex : ∃ (fa : Addr) (fd : FuncData) (ps : List Str), ps.length = fn.np ∧ FnOk X.prog X.w X.K X.mg X.base (L2.CX X.prog X.w) (n + 4) fa fd ps (spL T X.K n f ps.length) ∧ (X.mg x = some (.ref fa) ∧ PySem.W.keepIn X.K (.ref fa) = true) ∧ Binds X.K fd ps []
theorem runL_args {k : Call} {fn : Fn} {d0 d2 : D} {ds : List D} {r : Sum W Exn × List D} (h : runL k fn d0 ds d2 = some r) : fn.np = 3 := by
  unfold runL at h
  split at h
  · assumption
  · cases h
theorem callL_args {T : Pr} {n f : Nat} {fn : Fn} (ht : T.tab f = some fn) {d0 d2 : D} {ds : List D} {r : Sum W Exn × List D} (h : (callN T.tab n).l f d0 ds d2 = some r) : fn.np = 3 := by
  cases n with
  | zero => cases h
  | succ n =>
    simp only [callN, ht] at h
    exact runL_args h
/-- f(e0, x, e2), x a lent list -/
theorem se_mthL {f i : Nat} {fn : Fn} {x y : Str} {e0 e2 : Expr} {m0 m2 : Ex} {p1 p2 pos : Pos} (hK : X.K = C.K) (ht : C.T.tab f = some fn) (F : CallL X C.T C.m f x fn)
    (hr : Room (C.m + 4) X.A) (hg : Gl X x) (pass : ∀ σ, PassesAt (L2.CX X.prog X.w) X σ (WE C.W σ)) (hv : PE X (.Name y p2) (tVar i)) (h0 : SE C X m0 e0) (h2 : SE C X m2 e2) (hs0 : notStar e0 = true) (hs2 : notStar e2 = true) (hd : (x == ("__debug__" : Str)) = false) :
    SE C X (.mthL i f m0 m2) (.Call (.Name x p1) [e0, .Name y p2, e2] [] pos) := by
  obtain ⟨fa, fd, ps, hnp, Fo, ⟨hm, hk⟩, hb⟩ := F.ex
  refine .of hK rfl (fun _ => rfl) (fun _ => rfl) (pe_imp (pe_callS Fo hr hg hm hk hb pass (pa_cons h0.v (pa_cons hv (pa_cons h2.v pa_nil (star_of hs2)) rfl) (star_of hs0)) hd (star_of hs0) (stars_of (by rw [List.all_cons, List.all_cons, List.all_nil, hs2]; rfl))) fun σ H Q ⟨G, ω, c, R, p⟩ => ?_)
  simp only [den, Den.of] at p
  cases eo : getL c i with
  | none => rw [eo] at p; exact p.elim
  | some t =>
    rw [eo] at p
    dsimp only at p
    obtain ⟨a, ea, _, _⟩ := R.slot i _ (getL_get eo)
    refine ⟨G, ω, c, R, p.bind fun d0 c1 ω1 H1 v0 _ s1 R1 q1 p1 => ⟨.ref a, ea, G, ω1, c1, R1, p1.bind fun d2 c2 ω2 H2 v2 _ s2 R2 q2 p2 => ?_⟩⟩
    cases e2 : getL c2 i with
    | none => rw [e2] at p2; exact p2.elim
    | some w =>
      rw [e2] at p2
      dsimp only at p2
      obtain ⟨a', e3, _, la⟩ := R2.slot i _ (getL_get e2)
      rw [ea] at e3
      cases e3
      by_cases hs : soleO i 0 c2.env = true
      · rw [if_pos hs] at p2
        cases er : C.k.l f d0 w.2 d2 with
        | none => rw [er] at p2; exact p2.elim
        | some r =>
          rw [er] at p2
          refine ⟨?_, a, v0, v2, ω2, w.2, d0, d2, rfl, R2.dom, hK ▸ la, hK ▸ RV.step q1 s2, hK ▸ q2, ?_⟩
          · rw [hnp, callL_args ht er]; rfl
          · rw [show (callN C.T.tab C.m).l f d0 w.2 d2 = some r from er]
            have ow : ∀ {ω' : Om} {H' : Hp}, Stp C.m ω2 H2 ω' H' → ∀ j b vs, ω2 b = some (.slot C.l j) → H2 b = some (.lst vs) → ω' b = some (.slot C.l j) ∧ H' b = some (.lst vs) := fun {ω' H'} s j b vs e1 e2 => by
              refine ⟨?_, s.keep b _ e2 fun x k z => by rw [e1] at z; cases z⟩
              rcases s.own b _ e1 with z | ⟨m', i', z, hm', _⟩
              · exact z
              · injection z with z1 z2
                exact absurd hm' (by rw [← z1]; exact Nat.not_succ_le_self _)
            obtain ⟨r, o'⟩ := r
            cases r with
            | inl w => exact fun ω' H' v s k oa' q' => p2 ω' H' v (s.mono (Nat.le_succ _)) (R2.setLn hs (getL_get e2) ea (s.mono (Nat.le_succ _)) (ow s) k (hK ▸ oa')) (hK ▸ q')
            | inr x => exact fun ω' H' d s k oa' q' => p2 ω' H' d (s.mono (Nat.le_succ _)) (R2.setLn hs (getL_get e2) ea (s.mono (Nat.le_succ _)) (ow s) k (hK ▸ oa')) (hK ▸ q')
      · rw [if_neg hs] at p2; exact p2.elim
end
end Rp

/-! Rp, part Y: set(xs), xs a list of ints. -/
namespace Rp
open PySem PySem.Spec PyProof.Rows L2
section
variable {P : Program} {w : World} {A : Around} {E : Value → Shared → Prop} {s : Shared}
noncomputable abbrev emptySet (w : World) : Obj := { cls := .type "set", dict := none, data := .set #[] 0 (.fresh 0 0 (!w.params.followText "set-order")) }
/-- set(xs), xs a list of ints -/
theorem set_of_list {l : Addr} {items : Array Value} (ns : List Int) {Q : Value → Shared → Prop} (hh : A.handled = none) (hl : s.heap.IsList l items) (hit : IntsAre items.toList ns) (hb : ns.length + 1 < scanBound)
    (h : ∀ (h' : Heap) (tk c : Nat), SetR w h' s.heap.objs.size (fun j => decide (j ∈ ns)) c → c ≤ ns.length → (∀ b o, s.heap.get? b = some o → h'.get? b = some o) → Q (.ref s.heap.objs.size) { s with heap := h', toks := tk }) :
    wpAny (model P w) A (call (.type "set") [.ref l]) Q E s := by
  have hisz : items.size = ns.length := by
    have q := IntsAre.length hit
    rw [Array.length_toList] at q
    exact q
  obtain ⟨c, tl, hmro⟩ := F.called_set.mro
  have hmade := F.called_set.made
  have hsub := F.called_set.sub
  refine wpAny_call (codeAny_of_tree ?_)
  show wpAny _ _ (callAny (.type "set") _) _ _ _
  refine wpAny_pure ⟨Code.quiet_builtin _ (by decide +kernel), codeAny_builtin F.entry_type_call ?_⟩
  rw [Around.under_plain (weight_type_call_type "set" [.ref l] []) rfl]
  have h1 := F.called_set.notType
  have h2 := F.called_set.canCreate
  have hct := F.typeCall_set_1 (.ref l)
  repeat (any_goals (first | assumption | wp_step))
  refine codeAny_mono (code_set_led1 (.ref l) (E := E) (Q₁ := fun obj s₁ => obj = .ref s.heap.objs.size ∧ s₁ = { s with heap := s.heap.push (emptySet w) }) ⟨rfl, rfl⟩) fun r s₁ hr => ?_
  cases r with
  | error e => exact hr
  | ok fl =>
    cases fl with
    | ret obj =>
      obtain ⟨rfl, rfl⟩ := hr
      have hS : (s.heap.push (emptySet w)).get? s.heap.objs.size = some (emptySet w) := Heap.get?_push_size _ rfl
      have hT : Shared.TypeIs { s with heap := s.heap.push (emptySet w) } (.ref s.heap.objs.size) "set" := ⟨_, hS, rfl⟩
      have hli := F.called_set.init.lookup
      have hbi := F.called_set.init.bind (.ref s.heap.objs.size)
      repeat (any_goals (first | assumption | wp_step))
      refine codeAny_mono (codeAny_call_builtin (R := wants (fun r s₂ => r = .none ∧ ∃ h' tk c, s₂ = { s with heap := h', toks := tk } ∧ SetR w h' s.heap.objs.size (fun j => decide (j ∈ ns)) c ∧ c ≤ ns.length ∧
          (∀ b o, s.heap.get? b = some o → h'.get? b = some o)) E) F.called_set.init.plain F.entry_set_init (check_set_init_1 hT ?_)) fun r₂ s₂ hr₂ => ?_
      · have hl0 := hl
        obtain ⟨ol, hol, hcl, nl, hdl⟩ := hl
        obtain ⟨ocls, odict, odata, oslots⟩ := ol
        simp only at hcl hdl
        subst hcl; subst hdl
        have hol' : (s.heap.push (emptySet w)).get? l = some { cls := .type "list", dict := odict, data := .seq items nl, slots := oslots } := Heap.get?_push_of_some _ hol
        have hsls := F.sub_list_set
        have hslf := F.sub_list_frozenset
        have hne : (Value.type "list" == Value.type "dict") = false := by decide
        have hl1 : (s.heap.push (emptySet w)).IsList l items := hl0.push _
        unfold Builtin.«set.__init__» noKeywords Builtin.Frozenset.updateFrom
        generalize hPI : pyIter = PI
        wp_walk
        subst hPI
        refine wpAny_pyIter_list hl1 ?_
        refine wpAny_bind (wpAny_runValue ?_)
        have hlS : l < s.heap.objs.size := Heap.lt_size hol
        have hh3 : A.in1.in1.in1.handled = none := by simp [hh]
        have hneI : l ≠ (s.heap.push (emptySet w)).objs.size := by
          rw [Heap.size_push]; exact Nat.ne_of_lt (Nat.lt_succ_of_lt hlS)
        have hSf : s.heap.objs.size ∉ [(s.heap.push (emptySet w)).objs.size, l] := by
          rw [Heap.size_push]; simp only [List.mem_cons, List.mem_singleton, List.not_mem_nil, or_false, not_or]
          exact ⟨Nat.ne_of_lt (Nat.lt_succ_self _), Nat.ne_of_gt hlS⟩
        have hval : ∀ (i : Nat) (v : Value), items[i]? = some v → ∃ k t, ns[i]? = some k ∧ v = .int k t := fun i v hv => by
          have hi : i < ns.length := by rw [← hisz]; exact (Array.getElem?_eq_some_iff.mp hv).1
          obtain ⟨t, e⟩ := PyProof.Rows.IntsAre.int_at hit i v (by rw [Array.getElem?_toList]; exact hv)
          refine ⟨ns[i], t, List.getElem?_eq_getElem hi, ?_⟩
          rw [e, List.getD_eq_getElem?_getD, List.getElem?_eq_getElem hi] <;> rfl
        refine set_update_ints ((Walks.list hh3 _ l hneI items).toS) s.heap.objs.size
          hSf ns hisz hb hval (items.size - 0) 0 _ (by omega) (Nat.zero_le _)
          ⟨⟨_, Heap.get?_push_size _ rfl, rfl, rfl⟩, (hl1.push _)⟩ ?hS0 ?hR
        case hS0 => exact ⟨0, Nat.le_refl 0, setR_new_at (Heap.get?_push_of_some _ hS)⟩
        case hR =>
          intro s' c' hm hc' hS'
          obtain ⟨h', g2, d', tk', os'⟩ := s'
          have eg : g2 = s.gens := hm.gens
          have ed : d' = s.drawn := hm.drawn
          have eo : os' = s.os := hm.os
          subst eg; subst ed; subst eo
          show wpAny _ _ _ _ _ _
          refine wpAny_pure ?_
          show wpAny _ _ (ret Value.none) _ _ _
          rw [hisz] at hc'
          refine wpAny_pure ⟨rfl, h', tk', c', rfl, hS', hc', fun b o e => ?_⟩
          have hb0 : b < s.heap.objs.size := Heap.lt_size e
          have hb2 : b ≠ (s.heap.push (emptySet w)).objs.size := by
            rw [Heap.size_push]; exact Nat.ne_of_lt (Nat.lt_succ_of_lt hb0)
          exact hm.heap b o (by simp only [List.mem_cons, List.mem_singleton, List.not_mem_nil, or_false, not_or]; exact ⟨Nat.ne_of_lt hb0, hb2⟩) (Heap.get?_push_of_some _ (Heap.get?_push_of_some _ e))
      · cases r₂ with
        | error e => exact hr₂
        | ok fl₂ =>
          cases fl₂ with
          | ret r =>
            obtain ⟨rfl, h', tk, c', rfl, hS', hc', hk'⟩ := hr₂
            repeat (any_goals (first | assumption | wp_step))
            exact h _ _ _ hS' hc' hk'
          | _ => exact hr₂.elim
    | _ => exact hr.elim
end
end Rp

/-! So: the distinct ints of a list, rising. -/
namespace Rp
theorem insS_mem {k x : Int} : ∀ {l : List Int}, x ∈ insS k l ↔ x = k ∨ x ∈ l
  | [] => by simp [insS]
  | a :: r => by
    unfold insS
    split
    · simp
    · split
      · rename_i e; subst e; simp
      · simp only [List.mem_cons, insS_mem (l := r)]
        constructor
        · rintro (h | h | h) <;> simp [h]
        · rintro (h | h | h) <;> simp [h]
theorem insS_rise {k : Int} : ∀ {l : List Int}, l.Pairwise (· < ·) → (insS k l).Pairwise (· < ·)
  | [], _ => by simp [insS]
  | a :: r, h => by
    obtain ⟨h1, h2⟩ := List.pairwise_cons.mp h
    unfold insS
    split
    · rename_i e
      refine List.pairwise_cons.mpr ⟨fun y hy => ?_, h⟩
      rcases List.mem_cons.mp hy with rfl | hy
      · exact e
      · exact Int.lt_trans e (h1 y hy)
    · rename_i e1
      split
      · exact h
      · rename_i e2
        refine List.pairwise_cons.mpr ⟨fun y hy => ?_, insS_rise h2⟩
        rcases insS_mem.mp hy with rfl | hy
        · omega
        · exact h1 y hy
theorem sortS_mem {x : Int} : ∀ {l : List Int}, x ∈ sortS l ↔ x ∈ l
  | [] => by simp [sortS]
  | a :: r => by rw [sortS, insS_mem, sortS_mem]; simp
theorem sortS_rise : ∀ {l : List Int}, (sortS l).Pairwise (· < ·)
  | [] => by simp [sortS]
  | a :: r => insS_rise sortS_rise
theorem rise_uniq : ∀ {l l' : List Int}, l.Pairwise (· < ·) → l'.Pairwise (· < ·) → (∀ x, x ∈ l ↔ x ∈ l') → l = l'
  | [], [], _, _, _ => rfl
  | [], b :: r, _, _, h => by have := (h b).mpr List.mem_cons_self; simp at this
  | a :: r, [], _, _, h => by have := (h a).mp List.mem_cons_self; simp at this
  | a :: r, b :: r', h1, h2, h => by
    obtain ⟨a1, a2⟩ := List.pairwise_cons.mp h1
    obtain ⟨b1, b2⟩ := List.pairwise_cons.mp h2
    have e : a = b := by
      have x1 := (h a).mp List.mem_cons_self
      have x2 := (h b).mpr List.mem_cons_self
      rcases List.mem_cons.mp x1 with e | x1
      · exact e
      · rcases List.mem_cons.mp x2 with e | x2
        · exact e.symm
        · have := a1 b x2; have := b1 a x1; omega
    subst e
    rw [rise_uniq a2 b2 fun x => ?_]
    constructor
    · intro hx
      rcases List.mem_cons.mp ((h x).mp (List.mem_cons_of_mem _ hx)) with e | y
      · have := a1 x hx; omega
      · exact y
    · intro hx
      rcases List.mem_cons.mp ((h x).mpr (List.mem_cons_of_mem _ hx)) with e | y
      · have := b1 x hx; omega
      · exact y
end Rp

/-! Rp, part Z: sorted(set(xs)), xs a list of ints. -/
namespace Rp
open PySem PySem.Spec PyProof.Rows L2
section
variable {C : C0} {X : Cx}
/-- set(xs) -/
noncomputable def rSetL (K : PySem.W.Frag) (w : World) : List V → Hp → VK → Prop := fun xs H Q => ∃ (l : Addr) (ns : List Int), xs = [.ref l] ∧ SqL K H l (ns.map V.int) ∧ (sortS ns).length < 64 ∧ ns.length ≤ 1000 ∧
  ∀ p c, H p = none → c = (sortS ns).length → Q (.ref p) (upd H p (SetO w p (fun j => decide (j ∈ ns)) c))
theorem nodup_perm : ∀ {a b : List Int}, a.Nodup → b.Nodup → (∀ x, x ∈ a ↔ x ∈ b) → a.length = b.length
  | [], b, _, _, h => by
    cases b with
    | nil => rfl
    | cons y b => have := (h y).2 List.mem_cons_self; cases this
  | x :: a, b, ha, hb, h => by
    obtain ⟨h1, h2⟩ := List.nodup_cons.mp ha
    have hx : x ∈ b := (h x).1 List.mem_cons_self
    have e := nodup_perm (a := a) (b := b.erase x) h2 (hb.erase x) fun y => by
      rw [hb.mem_erase_iff]
      constructor
      · intro hy
        exact ⟨fun z => h1 (z ▸ hy), (h y).1 (List.mem_cons_of_mem _ hy)⟩
      · rintro ⟨z, hy⟩
        rcases List.mem_cons.mp ((h y).2 hy) with q | q
        · exact absurd q z
        · exact q
    have hl := List.length_erase_of_mem hx
    have hp : 0 < b.length := List.length_pos_of_mem hx
    simp only [List.length_cons]
    omega
theorem setR_cnt {w : World} {h : Heap} {a : Addr} {ns : List Int} {c : Nat} (R : SetR w h a (fun j => decide (j ∈ ns)) c) : c = (sortS ns).length := by
  obtain ⟨o, es, ep, t, ho, hx, hd, g, nd, hm, hb, hf, hn, _⟩ := R
  have e := nodup_perm nd ((sortS_rise (l := ns)).imp (fun h => Int.ne_of_lt h)) fun x => (hm x).symm.trans (by
    show decide (x ∈ ns) = true ↔ x ∈ sortS ns
    rw [sortS_mem, decide_eq_true_eq])
  rw [List.length_map, Array.length_toList] at e
  omega
theorem cr_setL (hc : X.calm = true) : CallR X (.type "set") (rSetL X.K X.w) := by
  intro pins s σ H xs us Q I r h
  obtain ⟨l, ns, rfl, hq, hl, hl2, q⟩ := h
  rw [Vals.ref1 r]
  obtain ⟨its, rv, pl, hz⟩ := I.list hq
  refine set_of_list ns (I.ok.hd hc) pl.isList (by simpa using ints_of_vals rv) (by unfold scanBound; omega) fun h' tk c R1 hcn k => ?_
  exact ⟨.ref _, upd H s.heap.objs.size (SetO X.w s.heap.objs.size _ c), I.laid (t' := tk) k (Nat.le_refl _) (setO_new R1), rfl, q _ c (I.hok.fresh (Nat.le_refl _)) (setR_cnt R1)⟩
theorem sints_dq {K : PySem.W.Frag} {H : Hp} : ∀ (ns : List Int), DqAll K H (ns.map V.int) (ns.map PyData.int)
  | [] => .nil
  | n :: ns => .cons (.int n) (sints_dq ns)
theorem srtS_args {K : PySem.W.Frag} {ω : Om} {H : Hp} {xs : List V} {ds : List D} {w : W} (q1 : RPs K ω H xs ds) (ew : prim .srtS ds = some w) : ∃ a ns, xs = [.ref a] ∧ SqL K H a (ns.map V.int) ∧ (sortS ns).length < 64 ∧ ns.length ≤ 1000 ∧ w = .own ((sortS ns).map .int) := by
  cases q1 with
  | nil => cases ew
  | cons q qs =>
    cases qs with
    | cons _ _ => simp [prim] at ew
    | nil =>
      rename_i x d
      cases d with
      | list l =>
        have ew : ((dInts l).bind fun ns => if (decide (ns.length ≤ 1000) && decide ((sortS ns).length < 64)) = true then some (W.own ((sortS ns).map .int)) else none) = some w := ew
        simp only [Option.bind_eq_some_iff] at ew
        obtain ⟨ns, e1, e2⟩ := ew
        split at e2
        · rename_i hl
          simp only [Bool.and_eq_true, decide_eq_true_eq] at hl
          cases e2
          obtain ⟨a, vs, rfl, t1, r1⟩ := q.list
          have e2 := dInts_ok r1 e1
          subst e2
          exact ⟨a, ns, rfl, .inl t1, hl.2, hl.1, rfl⟩
        · cases e2
      | _ => cases ew
theorem se_srtS {a : Expr} {ma : Ex} {p1 p2 q pos : Pos} (hK : X.K = C.K) (hc : X.calm = true) (hg : Gl X "sorted") (hm : X.mg "sorted" = none) (hg2 : Gl X "set") (hm2 : X.mg "set" = none) (hs : notStar a = true) (ha : SE C X ma a) :
    SE C X (.pr .srtS (.cons ma .nil)) (.Call (.Name "sorted" p1) [.Call (.Name "set" p2) [a] [] q] [] pos) := by
  have pa : PA X [a] (tPs C (.cons ma .nil)) := pa_P (star_of hs) ha.p pa_P0
  have ps : PE X (.Call (.Name "set" p2) [a] [] q) (tCB (rSetL X.K X.w) (tPs C (.cons ma .nil))) := pe_callTy (cr_setL hc) hg2 hm2 (by decide +kernel) pa (by decide) (by decide) (star_of hs) rfl
  have pa2 : PA X [.Call (.Name "set" p2) [a] [] q] (tCons (tCB (rSetL X.K X.w) (tPs C (.cons ma .nil))) tNil) := pa_cons ps pa_nil rfl
  refine .of hK rfl (fun _ => rfl) (fun _ => rfl) (pe_imp (pe_callB (cr_sortedSet hc) hg hm (by decide +kernel) pa2 (by decide) (by decide) rfl rfl) fun σ H Q h => ?_)
  obtain ⟨G, ω, c, R, h⟩ := h
  refine ⟨G, ω, c, R, ?_⟩
  simp only [den, Den.of] at h
  refine h.bind fun ds c1 ω1 H1 xs _ s1 R1 q1 p1 => ?_
  cases ew : prim .srtS ds with
  | none => rw [ew] at p1; exact p1.elim
  | some w =>
    rw [ew] at p1
    obtain ⟨a, ns, rfl, t1, hl, hl2, rfl⟩ := srtS_args q1 ew
    refine ⟨a, ns, rfl, hK ▸ t1, hl, hl2, fun p c hp hcn => ?_⟩
    refine ⟨p, _, c, rfl, upd_same, (hcn ▸ hl), fun ns' p2 h1 h2 h3 hp2 => ?_⟩
    have e : ns' = sortS ns := rise_uniq h1 sortS_rise fun x => by rw [h2 x, sortS_mem]; simp
    subst e
    have st := Stp.new (n := C.l) (o := SetO X.w p (fun j => decide (j ∈ ns)) c) R1.dom hp
    refine ret_own (R1.new hp) hp2 (sints_dq _) fun ω' H' v s' R' q' => p1 ω' H' v (st.trans s') R' ?_
    obtain ⟨p3, vs3, g1, g2, g3, g4, g5⟩ := q'
    refine ⟨p3, vs3, g1, g2, ?_, g4, g5⟩
    by_cases hh : p3 = p
    · subst hh; exact hp
    · rw [upd_ne hh] at g3; exact g3
end
end Rp

/-! Rp, part U: reversed(..), zip of two lists and a tuple. -/
namespace Rp
open PySem PySem.Spec PyProof.Rows L2
section
variable {K : PySem.W.Frag} {ω : Om} {H : Hp}
theorem wk_revL {a : Addr} {vs : List V} {ds : List D} (hl : Rd (hide H ω) a (.lst vs)) (r : DqAll K (hide H ω) vs ds) : WkD K (Itv K a vs.length) ω H ds.reverse := by
  have q : ∀ {ω' : Om} {H' : Hp}, Same (hide H ω) (hide H' ω') → SqL K H' a vs := fun s => .inl (rd_mono hide_same (rd_mono s hl))
  have W : Walk (Itv K a vs.length) vs.length (fun H => SqL K H a vs) (fun i H x H' => H' = H ∧ vs[vs.length - 1 - i]? = some x) := walk_rev
  have e := dps_len r
  have e0 : ds.reverse.length = ds.length := List.length_reverse
  refine ⟨fun i ω' H' s hi => W.goes i H' (by omega) (q s), fun ω' H' s => by rw [e0, ← e]; exact W.stops H' (q s), fun i ω' H' x H'' d s _ y hd => ?_⟩
  have hi : i < ds.length := by rw [← e0]; exact (List.getElem?_eq_some_iff.mp hd).1
  obtain ⟨e1, e2⟩ := W.yields i H' x H'' (by omega) (q s) y
  subst e1
  rw [e] at e2
  obtain ⟨d', h1, h2⟩ := dps_get r e2
  rw [List.getElem?_reverse hi] at hd
  rw [hd] at h1; cases h1
  exact ⟨.inl rfl, dp_mono s _ _ h2⟩
theorem wk_revT {a : Addr} {vs : List V} {ds : List D} (hl : SqT K (hide H ω) a vs) (r : DqAll K (hide H ω) vs ds) : WkD K (RT.ItvT K a vs.length) ω H ds.reverse := by
  have q : ∀ {ω' : Om} {H' : Hp}, Same (hide H ω) (hide H' ω') → SqT K H' a vs := fun s => same_sqT hide_same (same_sqT s hl)
  have e := dps_len r
  have e0 : ds.reverse.length = ds.length := List.length_reverse
  refine ⟨fun i ω' H' s hi => ⟨by omega, vs, vs[vs.length - 1 - i]'(by omega), q s, by simp [show vs.length - 1 - i < vs.length by omega]⟩, fun ω' H' s => by rw [e0, ← e]; exact Nat.le_refl _, fun i ω' H' x H'' d s _ y hd => ?_⟩
  have hi : i < ds.length := by rw [← e0]; exact (List.getElem?_eq_some_iff.mp hd).1
  obtain ⟨e1, e3⟩ := y
  have e2 := e3 vs (q s)
  subst e1
  rw [e] at e2
  obtain ⟨d', h1, h2⟩ := dps_get r e2
  rw [List.getElem?_reverse hi] at hd
  rw [hd] at h1; cases h1
  exact ⟨.inl rfl, dp_mono s _ _ h2⟩
end
section
variable {C : C0} {X : Cx} {tg : Expr}
theorem pi_rev {m : Ex} {e : Expr} {p1 pos : Pos} (hK : X.K = C.K) (hg : Gl X "reversed") (hm : X.mg "reversed" = none) (hs : notStar e = true) (h : SE C X m e) : PI X tg (.Call (.Name "reversed" p1) [e] [] pos) (tI C .rev (.cons m .nil)) := by
  refine ⟨fun pins s σ H R I ⟨G, ω, c, Rl, p⟩ => (RT.pi_revA hg hm h.v (star_of hs)).run pins s σ H R I ⟨G, ω, c, Rl, ?_⟩⟩
  simp only [itR, denVs, Rs.bind_assoc, Rs.bind_ok] at p
  refine p.bind fun d c1 ω1 H1 x _ s1 R1 q1 p1 => ?_
  cases ei : itOf .rev [d] with
  | none => rw [ei] at p1; exact p1.elim
  | some items =>
    rw [ei] at p1
    cases d with
    | list l =>
      simp only [itOf] at ei
      by_cases z : l.length ≤ big
      · rw [if_pos z] at ei
        cases ei
        cases q1 with
        | lst rd r =>
          refine ⟨_, _, rfl, .inl ⟨.inl (rd_mono hide_same rd), p1 ω1 H1 _ (Stp.refl R1.dom) R1 ⟨by rw [hK]; exact wk_revL rd r, ?_⟩⟩⟩
          rw [List.length_reverse, ← big_line]; exact z
      · rw [if_neg z] at ei; cases ei
    | tuple l =>
      simp only [itOf] at ei
      by_cases z : l.length ≤ big
      · rw [if_pos z] at ei
        cases ei
        cases q1 with
        | tup rd r =>
          refine ⟨_, _, rfl, .inr ⟨hK ▸ same_sqT hide_same rd, p1 ω1 H1 _ (Stp.refl R1.dom) R1 ⟨by rw [hK]; exact wk_revT rd r, ?_⟩⟩⟩
          rw [List.length_reverse, ← big_line]; exact z
      · rw [if_neg z] at ei; cases ei
    | _ => cases ei
end

/-! ### zip of two lists and a tuple -/
noncomputable def Itz3 (K : PySem.W.Frag) (a b c : Addr) : It :=
  ⟨fun i H => ∃ (xs ys zs : List V) (x y z : V), SqL K H a xs ∧ SqL K H b ys ∧ SqT K H c zs ∧ xs[i]? = some x ∧ ys[i]? = some y ∧ zs[i]? = some z,
    fun i H v H' => ∃ T x y z, v = .ref T ∧ H T = none ∧ H' = upd H T (.tup [x, y, z]) ∧ (∀ xs, SqL K H a xs → xs[i]? = some x) ∧ (∀ ys, SqL K H b ys → ys[i]? = some y) ∧ ∀ zs, SqT K H c zs → zs[i]? = some z,
    fun i H => ∃ xs ys zs : List V, SqL K H a xs ∧ SqL K H b ys ∧ SqT K H c zs ∧ xs.length = i ∧ ys.length = i ∧ zs.length = i⟩
theorem turn_zip3 {P : Program} {w : World} {K : PySem.W.Frag} {elts : List Expr} {kk : Nat} {tpos : Pos} {a b c z TI TO i1 i2 i3 : Addr} (D : ZipSep3 z TI TO i1 i2 i3 [i1, a] [i2, b] [i3, c]) (n1 : a ≠ i1) (n2 : b ≠ i2) (n3 : c ≠ i3) :
    Turn P w K (.Tuple elts kk tpos) (Itz3 K a b c) [z, TI, TO, i1, i2, i3] z (fun i h => IsZip h z TI TO .none ∧ IsTupOf3 h TI (.ref i1) (.ref i2) (.ref i3) ∧ (∃ x y u, IsTupOf3 h TO x y u) ∧ h.IsListIter i1 a i ∧ h.IsListIter i2 b i ∧ h.IsTupleIter i3 c i) where
  mem := by simp
  obj := fun i h st e he => by
    obtain ⟨hz, hTI, ⟨x, y, u, hTO⟩, ⟨o1, e1, _, d1⟩, ⟨o2, e2, _, d2⟩, ⟨o3, e3, _, d3⟩⟩ := st
    have e' : e = z ∨ e = TI ∨ e = TO ∨ e = i1 ∨ e = i2 ∨ e = i3 := by simpa using he
    rcases e' with q | q | q | q | q | q
    · rw [q]; exact ⟨_, hz, fun v q => nomatch q⟩
    · rw [q]; exact ⟨_, hTI, fun v q => nomatch q⟩
    · rw [q]; exact ⟨_, hTO, fun v q => nomatch q⟩
    · rw [q]; exact ⟨o1, e1, fun v q => by rw [d1] at q; cases q⟩
    · rw [q]; exact ⟨o2, e2, fun v q => by rw [d2] at q; cases q⟩
    · rw [q]; exact ⟨o3, e3, fun v q => by rw [d3] at q; cases q⟩
  keep := fun i h h' st k => by
    obtain ⟨hz, hTI, ⟨x, y, u, hTO⟩, h1, h2, h3⟩ := st
    exact ⟨k z (by simp) _ hz, k TI (by simp) _ hTI, ⟨x, y, u, k TO (by simp) _ hTO⟩, h1.at fun o q => k i1 (by simp) o q, h2.at fun o q => k i2 (by simp) o q, h3.at fun o q => k i3 (by simp) o q⟩
  item := by
    intro X hP hw hK hc i pins s σ H E I hf st hg
    subst hP hw hK
    obtain ⟨hz, hTI, hTO, h1, h2, h3⟩ := st
    obtain ⟨xs, ys, zs, x, y, u, qx, qy, qz, hx, hy, hu⟩ := hg
    obtain ⟨t1, r1, p1, _⟩ := I.list qx
    obtain ⟨t2, r2, p2, _⟩ := I.list qy
    obtain ⟨t3, r3, p3, _⟩ := I.tuple qz
    obtain ⟨v1, hv1, s1⟩ := r1.get hx
    obtain ⟨v2, hv2, s2⟩ := r2.get hy
    obtain ⟨v3, hv3, s3⟩ := r3.get hu
    have hh : X.A.in1.handled = none := I.ok.hd hc
    have Wk := WalksT.zipD3 (prog := X.prog) (w := X.w) (A := X.A) D (Draws.list hh i1 a n1 t1.toArray) (Draws.list hh i2 b n2 t2.toArray) (Draws.tuple hh i3 c n3 t3.toArray)
    have l1 : i < t1.length := (List.getElem?_eq_some_iff.mp hv1).1
    have l2 : i < t2.length := (List.getElem?_eq_some_iff.mp hv2).1
    have l3 : i < t3.length := (List.getElem?_eq_some_iff.mp hv3).1
    have hwr : ∀ e ∈ [z, TO, i1, i2, i3], FpOk X pins H e := fun e he => hf e (by
      have e' : e = z ∨ e = TO ∨ e = i1 ∨ e = i2 ∨ e = i3 := by simpa using he
      rcases e' with q | q | q | q | q <;> simp [q])
    refine Wk.item i s _ E (by simp only [List.size_toArray]; omega) ⟨hz, hTI, hTO, ⟨h1, p1.isList⟩, ⟨h2, p2.isList⟩, ⟨h3, p3⟩⟩ fun T vals h' tk hv hT htp mid hk => ?_
    obtain ⟨x1, x2, x3, e1, e2, e3, rfl⟩ := hv
    have ap := Wk.apart i T h' mid
    refine ⟨_, rfl, Wk.go elts kk tpos i T { s with heap := h', toks := tk } _ E mid fun h'' st'' hk2 => ?_⟩
    rw [show x1 = v1 by simpa [hv1] using e1.symm, show x2 = v2 by simpa [hv2] using e2.symm, show x3 = v3 by simpa [hv3] using e3.symm] at htp
    have new : ObjOk X.prog X.w (upd H T (.tup [x, y, u])) h'' T (.tup [x, y, u]) :=
      ⟨by show 3 ≤ sizeLine; decide, [v1, v2, v3], .cons s1 (.cons s2 (.cons s3 .nil)), htp.at fun o q => hk2 T o ap q⟩
    have I1 : Inv X pins σ (upd H T (.tup [x, y, u])) { s with heap := h'', toks := tk } :=
      I.turnedNew (t' := tk) (ch := [z, TO, i1, i2, i3]) (fun e o he q => hk2 e o he (hk e o he q)) hwr hT new
    obtain ⟨z', TI', TO', g1, g2, g3⟩ := st''
    refine ⟨.ref T, _, I1, rfl, ⟨T, x, y, u, rfl, I.hok.fresh hT, rfl, fun l hl => by rw [I.list_inj hl qx]; exact hx, fun l hl => by rw [I.list_inj hl qy]; exact hy, fun l hl => by rw [I.tuple_inj hl qz]; exact hu⟩, ⟨z', TI', TO', g1.1, g2.1, g3.1⟩, fun e he => ?_⟩
    have hlt : e < s.heap.objs.size := by
      have e' : e = z ∨ e = TI ∨ e = TO ∨ e = i1 ∨ e = i2 ∨ e = i3 := by simpa using he
      obtain ⟨_, _, _, hTO⟩ := hTO
      rcases e' with q | q | q | q | q | q
      · rw [q]; exact Heap.lt_size hz
      · rw [q]; exact Heap.lt_size hTI
      · rw [q]; exact Heap.lt_size hTO
      · rw [q]; obtain ⟨_, e1, _⟩ := h1; exact Heap.lt_size e1
      · rw [q]; obtain ⟨_, e1, _⟩ := h2; exact Heap.lt_size e1
      · rw [q]; obtain ⟨_, e1, _⟩ := h3; exact Heap.lt_size e1
    rw [upd_ne (Nat.ne_of_lt (Nat.lt_of_lt_of_le hlt hT))]
    exact (hf e he).1
  done := by
    intro X hP hw hK hc i pins s σ H E I hf st hg
    subst hP hw hK
    obtain ⟨hz, hTI, hTO, h1, h2, h3⟩ := st
    obtain ⟨xs, ys, zs, qx, qy, qz, hx, hy, hu⟩ := hg
    obtain ⟨t1, r1, p1, _⟩ := I.list qx
    obtain ⟨t2, r2, p2, _⟩ := I.list qy
    obtain ⟨t3, r3, p3, _⟩ := I.tuple qz
    have hh : X.A.in1.handled = none := I.ok.hd hc
    have Wk := WalksT.zipD3 (prog := X.prog) (w := X.w) (A := X.A) D (Draws.list hh i1 a n1 t1.toArray) (Draws.list hh i2 b n2 t2.toArray) (Draws.tuple hh i3 c n3 t3.toArray)
    have l1 := r1.length
    have l2 := r2.length
    have l3 := r3.length
    have hwr : ∀ e ∈ [z, TO, i1, i2, i3], FpOk X pins H e := fun e he => hf e (by
      have e' : e = z ∨ e = TO ∨ e = i1 ∨ e = i2 ∨ e = i3 := by simpa using he
      rcases e' with q | q | q | q | q <;> simp [q])
    have em : min (min t1.toArray.size t2.toArray.size) t3.toArray.size = i := by simp only [List.size_toArray]; omega
    refine Wk.done s _ E ?_ fun h' tk hk => ⟨rfl, I.turnedL (t' := tk) (ch := [z, TO, i1, i2, i3]) (fun e o he q => hk e o he q) hwr⟩
    rw [em]
    exact ⟨hz, hTI, hTO, ⟨h1, p1.isList⟩, ⟨h2, p2.isList⟩, ⟨h3, p3⟩⟩
  self := fun A i s Q E st h => wpAny_pyIter_zip st.1 h
noncomputable def iZip3 (K : PySem.W.Frag) (ta : TA) : TI := fun σ H R => ta σ H fun vs H1 => ∃ a b c xs ys zs, vs = [.ref a, .ref b, .ref c] ∧ SqL K H1 a xs ∧ SqL K H1 b ys ∧ SqT K H1 c zs ∧ R (Itz3 K a b c) H1
theorem pi_zip3 {X : Cx} {e e2 e3 : Expr} {ta : TA} {p pos tpos : Pos} {elts : List Expr} {kk : Nat} (hg : Gl X "zip") (hm : X.mg "zip" = none) (ha : PA X [e, e2, e3] ta)
    (hs : starEach [e, e2, e3] X.env = (false, eval e X.env) :: starEach [e2, e3] X.env) (hpl : (backTo pos (starEach [e2, e3] X.env)).any (·.1) = false) :
    PI X (.Tuple elts kk tpos) (.Call (.Name "zip" p) [e, e2, e3] [] pos) (iZip3 X.K ta) := by
  refine ⟨fun pins s σ H R I h => ?_⟩
  refine Call_ (ld_blt I hg hm PyProof.Rows.boot_zip (PyProof.Rows.callWith_type1 (thn (ha.run pos pins s σ H _ I h) fun us s1 ⟨vs, H1, I1, r1, q1⟩ => ?_) hs hpl))
  obtain ⟨a, b, c, xs, ys, zs, rfl, qx, qy, qz, q⟩ := q1
  cases r1 with
  | cons r rr =>
    cases rr with
    | cons r' rr =>
      cases rr with
      | cons r'' rr =>
        cases rr
        cases r
        cases r'
        cases r''
        obtain ⟨t1, g1, p1, _⟩ := I1.list qx
        obtain ⟨t2, g2, p2, _⟩ := I1.list qy
        obtain ⟨t3, g3, p3, _⟩ := I1.tuple qz
        have la : a < s1.heap.objs.size := p1.lt
        have lb : b < s1.heap.objs.size := p2.lt
        have lc : c < s1.heap.objs.size := by obtain ⟨_, e1, _⟩ := p3; exact Heap.lt_size e1
        refine zip_begins3 (begins_list a t1.toArray) (begins_list b t2.toArray) (begins_tuple c t3.toArray) p1.isList p2.isList p3 fun h' hz hTI hTO h1 h2 h3 hsz hk => wpAny_pyIter_zip hz ?_
        have I2 : Inv X pins σ H1 { s1 with heap := h' } := I1.kept (t' := s1.toks) hk
        have Z := zip_sep3 (N := s1.heap.objs.size) (fp1 := [a]) (fp2 := [b]) (fp3 := [c]) (fun e he => by rw [List.mem_singleton.mp he]; exact la) (fun e he => by rw [List.mem_singleton.mp he]; exact lb) (fun e he => by rw [List.mem_singleton.mp he]; exact lc)
        refine ⟨s1.heap.objs.size + 5, [s1.heap.objs.size + 5, s1.heap.objs.size + 3, s1.heap.objs.size + 4, s1.heap.objs.size, s1.heap.objs.size + 1, s1.heap.objs.size + 2], _, _, H1, rfl, I2, turn_zip3 Z (Nat.ne_of_lt la) (Nat.ne_of_lt (Nat.lt_succ_of_lt lb)) (Nat.ne_of_lt (Nat.lt_succ_of_lt (Nat.lt_succ_of_lt lc))), ⟨hz, hTI, ⟨_, _, _, hTO⟩, ⟨_, h1, rfl, rfl⟩, ⟨_, h2, rfl, rfl⟩, ⟨_, h3, rfl, rfl⟩⟩, fun e he => ?_, q⟩
        have hle : s1.heap.objs.size ≤ e := by
          have e' : e = s1.heap.objs.size + 5 ∨ e = s1.heap.objs.size + 3 ∨ e = s1.heap.objs.size + 4 ∨ e = s1.heap.objs.size ∨ e = s1.heap.objs.size + 1 ∨ e = s1.heap.objs.size + 2 := by simpa using he
          rcases e' with z | z | z | z | z | z
          · rw [z]; exact Nat.le_add_right _ _
          · rw [z]; exact Nat.le_add_right _ _
          · rw [z]; exact Nat.le_add_right _ _
          · rw [z]; exact Nat.le_refl _
          · rw [z]; exact Nat.le_add_right _ _
          · rw [z]; exact Nat.le_add_right _ _
        exact I1.fpOk hle (I1.hok.fresh hle)
section
variable {K : PySem.W.Frag} {ω : Om} {H : Hp}
theorem zipD_len : ∀ {a b c : List D}, b.length = a.length → c.length = a.length → (zipD a b c).length = a.length
  | [], [], [], _, _ => rfl
  | x :: a, y :: b, z :: c, h1, h2 => by
    simp only [zipD, List.length_cons]
    rw [zipD_len (by simpa using h1) (by simpa using h2)]
  | [], _ :: _, _, h1, _ => by simp at h1
  | [], [], _ :: _, _, h2 => by simp at h2
  | _ :: _, [], _, h1, _ => by simp at h1
  | _ :: _, _ :: _, [], _, h2 => by simp at h2
theorem zipD_get : ∀ {a b c : List D} {i : Nat} {d : D}, (zipD a b c)[i]? = some d → ∃ x y z, a[i]? = some x ∧ b[i]? = some y ∧ c[i]? = some z ∧ d = .tuple [x, y, z]
  | x :: a, y :: b, z :: c, 0, d, h => by simp [zipD] at h; exact ⟨x, y, z, rfl, rfl, rfl, h.symm⟩
  | x :: a, y :: b, z :: c, i + 1, d, h => by
    simp only [zipD, List.getElem?_cons_succ] at h ⊢
    exact zipD_get h
  | [], _, _, _, _, h => by simp [zipD] at h
  | _ :: _, [], _, _, _, h => by simp [zipD] at h
  | _ :: _, _ :: _, [], _, _, h => by simp [zipD] at h
theorem wk_zip {a b c : Addr} {vs us ws : List V} {ds es fs : List D} (h1 : Rd (hide H ω) a (.lst vs)) (r1 : DqAll K (hide H ω) vs ds) (h2 : Rd (hide H ω) b (.lst us)) (r2 : DqAll K (hide H ω) us es) (h3 : SqT K (hide H ω) c ws) (r3 : DqAll K (hide H ω) ws fs)
    (e1 : es.length = ds.length) (e2 : fs.length = ds.length) : WkD K (Itz3 K a b c) ω H (zipD ds es fs) := by
  have q1 : ∀ {ω' : Om} {H' : Hp}, Same (hide H ω) (hide H' ω') → SqL K H' a vs := fun s => .inl (rd_mono hide_same (rd_mono s h1))
  have q2 : ∀ {ω' : Om} {H' : Hp}, Same (hide H ω) (hide H' ω') → SqL K H' b us := fun s => .inl (rd_mono hide_same (rd_mono s h2))
  have q3 : ∀ {ω' : Om} {H' : Hp}, Same (hide H ω) (hide H' ω') → SqT K H' c ws := fun s => same_sqT hide_same (same_sqT s h3)
  have l1 := dps_len r1
  have l2 := dps_len r2
  have l3 := dps_len r3
  have e0 := zipD_len e1 e2
  refine ⟨fun i ω' H' s hi => ⟨vs, us, ws, vs[i]'(by omega), us[i]'(by omega), ws[i]'(by omega), q1 s, q2 s, q3 s, List.getElem?_eq_getElem _, List.getElem?_eq_getElem _, List.getElem?_eq_getElem _⟩, fun ω' H' s => ⟨vs, us, ws, q1 s, q2 s, q3 s, by omega, by omega, by omega⟩, fun i ω' H' x H'' d s dm y hd => ?_⟩
  obtain ⟨T, x1, x2, x3, rfl, hT, rfl, g1, g2, g3⟩ := y
  obtain ⟨d1, d2, d3, k1, k2, k3, rfl⟩ := zipD_get hd
  obtain ⟨d1', m1, s1⟩ := dps_get r1 (g1 _ (q1 s))
  obtain ⟨d2', m2, s2⟩ := dps_get r2 (g2 _ (q2 s))
  obtain ⟨d3', m3, s3⟩ := dps_get r3 (g3 _ (q3 s))
  rw [k1] at m1; cases m1
  rw [k2] at m2; cases m2
  rw [k3] at m3; cases m3
  have up : ∀ {v : V} {d : D}, Dq K (hide H ω) v d → Dq K (hide (upd H' T (.tup [x1, x2, x3])) ω') v d := fun h => dp_mono (hide_new dm hT) _ _ (dp_mono s _ _ h)
  exact ⟨.inr ⟨T, _, hT, rfl⟩, .tup (SqT.of (by rw [hide_free (dm.free hT), upd_same])) (.cons (up s1) (.cons (up s2) (.cons (up s3) .nil)))⟩
end
section
variable {C : C0} {X : Cx}
theorem pi_zip {m m2 m3 : Ex} {e e2 e3 : Expr} {p1 pos tpos : Pos} {elts : List Expr} {kk : Nat} (hK : X.K = C.K) (hg : Gl X "zip") (hm : X.mg "zip" = none) (hs : notStar e = true) (hs2 : notStar e2 = true) (hs3 : notStar e3 = true) (h : SE C X m e) (h2 : SE C X m2 e2) (h3 : SE C X m3 e3) :
    PI X (.Tuple elts kk tpos) (.Call (.Name "zip" p1) [e, e2, e3] [] pos) (tI C .zip (.cons m (.cons m2 (.cons m3 .nil)))) := by
  refine ⟨fun pins s σ H R I ⟨G, ω, c, Rl, p⟩ => (pi_zip3 hg hm (pa_V (star_of hs) h.v (pa_V (star_of hs2) h2.v (pa_V (star_of hs3) h3.v pa_V0))) (star_of hs) (stars_of (by simp [hs2, hs3]))).run pins s σ H R I ⟨G, ω, c, Rl, ?_⟩⟩
  simp only [itR] at p
  refine p.bind fun ds c1 ω1 H1 xs ed s1 R1 q1 p1 => ?_
  cases ei : itOf .zip ds with
  | none => rw [ei] at p1; exact p1.elim
  | some items =>
    rw [ei] at p1
    unfold itOf at ei
    split at ei
    all_goals (first | contradiction | skip)
    rename_i a b c' _
    split at ei
    · rename_i z
      simp only [Bool.and_eq_true, decide_eq_true_eq] at z
      obtain ⟨⟨z1, z2⟩, z3⟩ := z
      cases ei
      match xs, q1 with
      | _, .cons (.lst rd1 r1) (.cons (.lst rd2 r2) (.cons (.tup rd3 r3) .nil)) =>
        exact ⟨_, _, _, _, _, _, rfl, .inl (rd_mono hide_same rd1), .inl (rd_mono hide_same rd2), hK ▸ same_sqT hide_same rd3, p1 ω1 H1 _ (Stp.refl R1.dom) R1 ⟨by rw [hK]; exact wk_zip rd1 r1 rd2 r2 rd3 r3 z1 z2, by rw [zipD_len z1 z2, ← big_line]; exact z3⟩⟩
    · cases ei
end
end Rp

/-! Rp, part V: max(xs, default=0), list(range(n)). -/
namespace Rp
open PySem PySem.Spec PyProof.Rows L2
section
variable {prog : Program} {w : World} {A : Around} {R : Result → Shared → Prop} {J : Addr} {fp wr : List Addr} {n : Nat} {Pv : Nat → Value → Prop} {Sv : Nat → Heap → Prop}
noncomputable abbrev mxK (d : Value) : List (Str × Value) := [(Str.ofString "default", d)]
theorem mx_name : (toString "max" ++ toString ".loop" : String) = "max.loop" := by decide
/-- the best so far stands in B -/
theorem mx_more {d : Value} (Wk : Walks prog w A.in1 J fp wr n Pv Sv) (bt : Nat → Nat → Bool) (hcmp : CmpOf prog w A.in1 .Gt Pv bt) (B : Addr) (hB : B ∉ fp) :
    ∀ (k j : Nat) (s : Shared) (u : Value) (c : Nat), n = j + 1 + k → Sv (j + 1) s.heap → Pv (argBest bt j) u → s.heap.get? B = some ⟨.type "list", none, .seq #[u, u] c, #[]⟩ →
    (∀ v h' tk, Pv (argBest bt (n - 1)) v → (∀ b o, b ∉ wr → b ≠ B → s.heap.get? b = some o → h'.get? b = some o) → R (.ok (.ret v)) { s with heap := h', toks := tk }) →
    codeAny (model prog w) A (.builtin "max.loop" ⟨[.ref J, .none, .ref B], mxK d⟩) R s
  | 0, j, s, u, c, hn, hs, hp, hb, k => by
    have hBw : B ∉ wr := fun z => hB (Wk.sub _ z)
    refine codeAny_builtin F.entry_max_loop ?_
    rw [Around.under_plainId F.plain_max_loop _]
    show wpAny _ A.in1 (seqItems? (.ref B) >>= _) _ _ s
    refine wpAny_bind (wpAny_seqItems hb rfl ?_)
    show wpAny _ A.in1 (tryCatch (pyNext (.ref J)) _ >>= _) _ _ s
    refine wpAny_bind (wpAny_tryCatch (Wk.done s _ _ (by rw [hn]; exact hs) fun h' tk keeps => ?_))
    show wpAny _ A.in1 (updateSeq B (fun _ => #[]) >>= _) _ _ _
    exact wpAny_bind (wpAny_updateSeq (keeps B _ hBw hb) rfl (wpAny_bind (wpAny_letGo (wpAny_pure (k u _ tk (by rw [hn]; exact hp) fun b o z1 z2 e => (Heap.get?_update_other _ _ (Ne.symm z2)).trans (keeps b o z1 e))))))
  | k + 1, j, s, u, c, hn, hs, hp, hb, kk => by
    have hBw : B ∉ wr := fun z => hB (Wk.sub _ z)
    refine codeAny_builtin F.entry_max_loop ?_
    rw [Around.under_plainId F.plain_max_loop _]
    show wpAny _ A.in1 (seqItems? (.ref B) >>= _) _ _ s
    refine wpAny_bind (wpAny_seqItems hb rfl ?_)
    show wpAny _ A.in1 (tryCatch (pyNext (.ref J)) _ >>= _) _ _ s
    refine wpAny_bind (wpAny_tryCatch (Wk.item (j + 1) s _ _ (by omega) hs fun v h' tk hv hs' keeps => ?_))
    have hb' := keeps B _ hBw hb
    show wpAny _ A.in1 (tryCatch (holding [v, v] (richCompare .Gt v u >>= _)) _ >>= _) _ _ _
    refine wpAny_bind (wpAny_tryCatch (wpAny_holding (wpAny_bind (hcmp (j + 1) (argBest bt j) v u _ _ _ hv hp (wpAny_bind (wpAny_holding (wpAny_truthy_bool (wpAny_bind (wpAny_letGo (wpAny_pure ?_))))))))))
    cases eb : bt (j + 1) (argBest bt j) with
    | true =>
      simp only [if_true]
      refine wpAny_bind (wpAny_updateSeq hb' rfl (wpAny_bind (wpAny_letGo ?_)))
      rw [mx_name]
      refine wpAny_pure ⟨plainId_quiet F.plain_max_loop _, mx_more Wk bt hcmp B hB k (j + 1) _ v _ (by omega) (Wk.frame _ _ _ hs' fun b hm o e => ?_) (by simp only [argBest, eb, if_true]; exact hv) (Heap.get?_update_self _ hb' rfl) fun v2 h2 t2 hv2 k2 => ?_⟩
      · exact (Heap.get?_update_other _ _ (fun z : B = b => hB (z ▸ hm))).trans e
      · exact kk v2 h2 t2 hv2 fun b o z1 z2 e => k2 b o z1 z2 ((Heap.get?_update_other _ _ (Ne.symm z2)).trans (keeps b o z1 e))
    | false =>
      simp only [Bool.false_eq_true, if_false]
      refine wpAny_bind (wpAny_letGo ?_)
      rw [mx_name]
      refine wpAny_pure ⟨plainId_quiet F.plain_max_loop _, mx_more Wk bt hcmp B hB k (j + 1) _ u c (by omega) hs' (by simp only [argBest, eb, Bool.false_eq_true, if_false]; exact hp) hb' fun v2 h2 t2 hv2 k2 => ?_⟩
      exact kk v2 h2 t2 hv2 fun b o z1 z2 e => k2 b o z1 z2 (keeps b o z1 e)
theorem mx_any {d : Value} (Wk : Walks prog w A.in1 J fp wr n Pv Sv) (bt : Nat → Nat → Bool) (hcmp : CmpOf prog w A.in1 .Gt Pv bt) (B : Addr) (hB : B ∉ fp) {s : Shared} {c : Nat} (hs : Sv 0 s.heap) (hb : s.heap.get? B = some ⟨.type "list", none, .seq #[] c, #[]⟩)
    (k0 : n = 0 → ∀ h' tk, (∀ b o, b ∉ wr → b ≠ B → s.heap.get? b = some o → h'.get? b = some o) → R (.ok (.ret d)) { s with heap := h', toks := tk })
    (k1 : 0 < n → ∀ v h' tk, Pv (argBest bt (n - 1)) v → (∀ b o, b ∉ wr → b ≠ B → s.heap.get? b = some o → h'.get? b = some o) → R (.ok (.ret v)) { s with heap := h', toks := tk }) :
    codeAny (model prog w) A (.builtin "max.loop" ⟨[.ref J, .none, .ref B], mxK d⟩) R s := by
  have hBw : B ∉ wr := fun z => hB (Wk.sub _ z)
  refine codeAny_builtin F.entry_max_loop ?_
  rw [Around.under_plainId F.plain_max_loop _]
  show wpAny _ A.in1 (seqItems? (.ref B) >>= _) _ _ s
  refine wpAny_bind (wpAny_seqItems hb rfl ?_)
  show wpAny _ A.in1 (tryCatch (pyNext (.ref J)) _ >>= _) _ _ s
  rcases Nat.eq_zero_or_pos n with z | z
  · subst z
    refine wpAny_bind (wpAny_tryCatch (Wk.done s _ _ hs fun h' tk keeps => ?_))
    exact wpAny_bind (wpAny_rule (wpAny_pure (k0 rfl h' tk fun b o z1 _ e => keeps b o z1 e)))
  · refine wpAny_bind (wpAny_tryCatch (Wk.item 0 s _ _ z hs fun v h' tk hv hs' keeps => ?_))
    have hb' := keeps B _ hBw hb
    show wpAny _ A.in1 (updateSeq B (fun _ => #[v, v]) >>= _) _ _ _
    refine wpAny_bind (wpAny_updateSeq hb' rfl ?_)
    rw [mx_name]
    refine wpAny_pure ⟨plainId_quiet F.plain_max_loop _, mx_more Wk bt hcmp B hB (n - 1) 0 _ v _ (by omega) (Wk.frame _ _ _ hs' fun b hm o e => ?_) hv (Heap.get?_update_self _ hb' rfl) fun v2 h2 t2 hv2 k2 => ?_⟩
    · exact (Heap.get?_update_other _ _ (fun z : B = b => hB (z ▸ hm))).trans e
    · exact k1 z v2 h2 t2 hv2 fun b o z1 z2 e => k2 b o z1 z2 ((Heap.get?_update_other _ _ (Ne.symm z2)).trans (keeps b o z1 e))
end
section
variable {prog : Program} {w : World} {A : Around} {E : Value → Shared → Prop} {s : Shared}
theorem args_maxD (a d : Value) : argsOk "max" ⟨[a], mxK d⟩ := by unfold argsOk; kernel_rfl
theorem call_maxD {l : Addr} {d : Value} {xs : Array (Int × Tok)} {Q : Value → Shared → Prop} (hh : A.handled = none) (hl : s.heap.IsList l (intItems xs))
    (k0 : xs.size = 0 → ∀ h' tk, (∀ b o, s.heap.get? b = some o → h'.get? b = some o) → Q d { s with heap := h', toks := tk })
    (k1 : 0 < xs.size → ∀ v h' tk, (intItems xs)[argBest (fun i j => decide (numAt xs i > numAt xs j)) (xs.size - 1)]? = some v → (∀ b o, s.heap.get? b = some o → h'.get? b = some o) → Q v { s with heap := h', toks := tk }) :
    wpAny (model prog w) A (call (.builtin "max") [.ref l] (mxK d)) Q E s := by
  refine wpAny_call (codeAny_call_builtin F.plain_max F.entry_max ?_)
  have go : wpAny (model prog w) A.in1 (Builtin.«max» ⟨[.ref l], mxK d⟩) (fun fin s' => match fin with
      | .done f => (match (Except.ok f : Result) with | .ok (.ret v) => Q v s' | .ok _ => False | .error e => E e s')
      | .again c' => c'.quiet = true ∧ codeAny (model prog w) A c' (fun r s' => match r with | .ok (.ret v) => Q v s' | .ok _ => False | .error e => E e s') s') E s := by
    show wpAny _ A.in1 (Builtin.Builtins.bindParams "max" ["key", "default"] 0 ⟨[], mxK d⟩ >>= _) _ _ s
    refine wpAny_bind (wpAny_of_eq (show Builtin.Builtins.bindParams "max" ["key", "default"] 0 ⟨[], mxK d⟩ = pure [none, some d] by kernel_rfl) ?_)
    refine wpAny_bind (wpAny_pure (wpAny_bind (iter_intList hl fun s2 e st hfp hlI => ?_)))
    subst e
    refine wpAny_bind (wpAny_newObj_type ?_)
    rw [mx_name]
    have Wk : Walks prog w A.in1 s.heap.objs.size _ _ _ _ _ := Walks.list (A := A.in1) hh _ l hlI (intItems xs)
    have ez : (intItems xs).size = xs.size := by simp [intItems]
    refine wpAny_pure ⟨plainId_quiet F.plain_max_loop _, mx_any Wk _ (CmpOf.ints_gt (numAt xs) (fun _ _ => intItems_at)) _ (fun hm => Nat.lt_irrefl _ (hfp _ hm)) (Wk.frame _ _ _ st fun b _ o e => Heap.get?_push_of_some _ e) (Heap.get?_push_size _ rfl) (fun z h' tk hk => ?_) fun z v h' tk hv hk => ?_⟩
    · exact k0 (by omega) h' tk (old_kept fun b o hb e => hk b o hb (Nat.ne_of_lt (Heap.lt_size e)) (Heap.get?_push_of_some _ e))
    · rw [ez] at hv z
      exact k1 z v h' tk hv (old_kept fun b o hb e => hk b o hb (Nat.ne_of_lt (Heap.lt_size e)) (Heap.get?_push_of_some _ e))
  simp only [checkBuiltinCall, F.kind_max]
  cases hsig : Manifest.signature? "max" with
  | none => exact wpAny_pure go
  | some sig =>
    have ha' : Bind.checkArgs "max" sig ⟨[.ref l], mxK d⟩ = pure () := by simpa only [argsOk, hsig] using args_maxD (.ref l) d
    simp only [ha']
    exact wpAny_pure go
theorem maxD_raw {l : Addr} {d : Value} {its : List Value} {ns : List Int} {Q : Value → Shared → Prop} (hh : A.handled = none) (hl : s.heap.IsList l its.toArray) (hi : IntsAre its ns)
    (k0 : ns = [] → ∀ h' tk, (∀ b o, s.heap.get? b = some o → h'.get? b = some o) → Q d { s with heap := h', toks := tk })
    (k1 : ∀ h' tk m t, (∀ b o, s.heap.get? b = some o → h'.get? b = some o) → m ∈ ns → (∀ a, a ∈ ns → a ≤ m) → Q (.int m t) { s with heap := h', toks := tk }) :
    wpAny (model prog w) A (call (.builtin "max") [.ref l] (mxK d)) Q E s := by
  obtain ⟨xs, e⟩ := hi.allInts.items
  have hn : numsOf (intItems xs).toList = ns := by rw [← e]; exact hi.numsOf
  rw [nums_intItems] at hn
  subst hn
  rw [e] at hl
  refine call_maxD hh hl (fun z => k0 ?_) fun z v h' tk hv hk => ?_
  · have : xs = #[] := Array.eq_empty_of_size_eq_zero z
    rw [this]; rfl
  · obtain ⟨t, rfl⟩ := intItems_at hv
    obtain ⟨h1, h2⟩ := argBest_gt (numAt xs) (xs.size - 1)
    refine k1 h' tk _ t hk ?_ fun a ha => ?_
    · rw [numAt_eq]; exact PySem.getD_mem (by rw [List.length_map, Array.length_toList]; omega)
    · obtain ⟨j, hj, rfl⟩ := mem_getD ha
      rw [List.length_map, Array.length_toList] at hj
      rw [← numAt_eq]; exact h2 j (by omega)
end
section
variable {C : C0} {X : Cx}
noncomputable def rMaxK (K : PySem.W.Frag) : List V → List V → Hp → VK → Prop := fun vs zs H Q => ∃ (a : Addr) (ns : List Int) (i : Int), vs = [V.ref a] ∧ zs = [.int i] ∧ SqL K H a (ns.map V.int) ∧ (ns = [] → Q (.int i) H) ∧ ∀ m, m ∈ ns → (∀ y, y ∈ ns → y ≤ m) → Q (.int m) H
theorem cr_maxK (hc : X.calm = true) : CallRK X (.builtin "max") [Str.ofString "default"] (rMaxK X.K) := by
  intro pins s σ H vs zs us ws Q I r rz h
  obtain ⟨a, ns, i, rfl, rfl, hs, q0, q⟩ := h
  obtain ⟨its, rv, hl, _⟩ := I.list hs
  obtain rfl := Vals.ref1 r
  obtain ⟨w1, rfl, t, rfl⟩ := vals1 rz
  exact maxD_raw (I.ok.hd hc) hl.isList rv.ints (fun z h' tk hk => ⟨.int i, H, I.kept hk, ⟨_, rfl⟩, q0 z⟩) fun h' tk m t' hk h1 h2 => ⟨.int _, H, I.kept hk, ⟨_, rfl⟩, q m h1 h2⟩
theorem max0_args {K : PySem.W.Frag} {ω : Om} {H : Hp} {xs : List V} {ds : List D} {w : W} (q1 : RPs K ω H xs ds) (ew : prim .max0 ds = some w) : ∃ a ns, xs = [.ref a] ∧ SqL K H a (ns.map V.int) ∧ w = .val (.int ((maxI ns).getD 0)) := by
  cases q1 with
  | nil => cases ew
  | cons q qs =>
    cases qs with
    | cons _ _ => simp [prim] at ew
    | nil =>
      rename_i x d
      cases d with
      | list l =>
        have ew : ((dInts l).map fun ns => W.val (.int ((maxI ns).getD 0))) = some w := ew
        simp only [Option.map_eq_some_iff] at ew
        obtain ⟨ns, e1, rfl⟩ := ew
        obtain ⟨a, vs, rfl, t1, r1⟩ := q.list
        have e2 := dInts_ok r1 e1
        subst e2
        exact ⟨a, ns, rfl, .inl t1, rfl⟩
      | _ => cases ew
theorem se_max0 {a : Expr} {ma : Ex} {p1 p2 p3 pos : Pos} {j : Nat} (hK : X.K = C.K) (hc : X.calm = true) (hg : Gl X "max") (hm : X.mg "max" = none) (hs : notStar a = true) (ha : SE C X ma a) :
    SE C X (.pr .max0 (.cons ma .nil)) (.Call (.Name "max" p1) [a] [⟨some "default", .Constant (.int 0) j p2, p3⟩] pos) := by
  have pa : PA X [a] (tPs C (.cons ma .nil)) := pa_P (star_of hs) ha.p pa_P0
  refine .of hK rfl (fun _ => rfl) (fun _ => rfl) (pe_imp (pe_callBK (cr_maxK hc) hg hm (by decide +kernel) pa (pk_cons pe_int pk_nil) (by decide) (by decide) (by rw [star_of hs]; rfl) (by rw [star_of hs]; rfl) rfl rfl rfl) fun σ H Q h => ?_)
  obtain ⟨G, ω, c, R, h⟩ := h
  refine ⟨G, ω, c, R, ?_⟩
  simp only [den, Den.of] at h
  refine h.bind fun ds c1 ω1 H1 xs _ s1 R1 q1 p1 => ?_
  cases ew : prim .max0 ds with
  | none => rw [ew] at p1; exact p1.elim
  | some w =>
    rw [ew] at p1
    obtain ⟨a, ns, rfl, t1, rfl⟩ := max0_args q1 ew
    show rMaxK X.K [.ref a] [.int 0] H1 Q
    refine ⟨a, ns, 0, rfl, rfl, hK ▸ t1, fun z => ?_, fun m m1 m2 => ?_⟩
    · subst z
      exact ret_val R1 (.int _) p1
    · have e : maxI ns = some m := by
        cases em : maxI ns with
        | none =>
          cases ns with
          | nil => cases m1
          | cons _ _ => cases em
        | some m' =>
          obtain ⟨h1, h2, h3⟩ := maxI_ok em
          rw [Int.le_antisymm (h3 m m1) (m2 m' h2)]
      rw [e] at p1
      exact ret_val R1 (.int _) p1
theorem rgV_dq {K : PySem.W.Frag} {H : Hp} (n : Nat) (b : Int) (h : b.toNat = n) : DqAll K H (rgV 0 b) (rngD 0 n) := by
  unfold rgV rngD
  rw [Int.sub_zero, h]
  generalize List.range n = l
  induction l with
  | nil => exact .nil
  | cons a l ih => exact .cons (.int _) ih
theorem se_lrng {a : Expr} {ma : Ex} {p1 p2 q pos : Pos} (hK : X.K = C.K) (hc : X.calm = true) (hg : Gl X "list") (hm : X.mg "list" = none) (hg2 : Gl X "range") (hm2 : X.mg "range" = none) (hs : notStar a = true) (ha : SE C X ma a) :
    SE C X (.pr .lrng (.cons ma .nil)) (.Call (.Name "list" p1) [.Call (.Name "range" p2) [a] [] q] [] pos) := by
  refine .of hK rfl (fun _ => rfl) (fun _ => rfl) (pe_imp (pe_listRg hc hg hm (prg_1 hg2 hm2 ha.p (star_of hs)) rfl) fun σ H Q h => ?_)
  obtain ⟨G, ω, c, R, h⟩ := h
  refine ⟨G, ω, c, R, ?_⟩
  simp only [den, Den.of, denPs, Rs.bind_assoc, Rs.bind_ok] at h
  refine h.bind fun d c1 ω1 H1 x _ s1 R1 q1 p1 => ?_
  cases d with
  | int j =>
    simp only [prim] at p1
    by_cases z : (small j && decide (j.toNat ≤ big)) = true
    · rw [if_pos z] at p1
      simp only [small, Bool.and_eq_true, decide_eq_true_eq] at z
      obtain ⟨⟨z1, z2⟩, z3⟩ := z
      cases q1.int
      refine ⟨j, rfl, ⟨by omega, by omega, z1, z2, ?_⟩, fun p hp => ?_⟩
      · unfold big at z3; omega
      · exact ret_own R1 hp (rgV_dq _ _ rfl) p1
    · rw [if_neg z] at p1; exact p1.elim
  | _ => exact p1.elim
end

/-! ### a def with a default for its last parameter -/
structure CallDf (X : Cx) (T : Pr) (n : Nat) (f : Nat) (fn : Fn) (kw : Str) (i : Int) : Prop where
  ex : ∃ (fa : Addr) (fd : FuncData) (ps : List Str), ps.length = fn.np ∧ FnOk X.prog X.w X.K X.mg X.base (L2.CX X.prog X.w) (n + 4) fa fd ps (spF T X.K n f ps.length) ∧ X.mg (T.name f) = some (.ref fa) ∧ PySem.W.keepIn X.K (.ref fa) = true ∧
    (∃ ds, Vals [V.int i] ds ∧ Binds X.K fd ps ds) ∧ ∃ (g : List Value → List Value → List Value) (gV : List V → List V → List V), KBn X.K fd ps (fn.np - 1) [kw] g gV ∧ ∀ vs z, gV vs [z] = vs ++ [z]
section
variable {C : C0} {X : Cx}
theorem dq_snoc {K : PySem.W.Frag} {H : Hp} {v : V} {d : D} (h : Dq K H v d) : ∀ {vs : List V} {ds : List D}, DqAll K H vs ds → DqAll K H (vs ++ [v]) (ds ++ [d])
  | _, _, .nil => .cons h .nil
  | _, _, .cons a b => .cons a (dq_snoc h b)
theorem se_callD {f : Nat} {fn : Fn} {x kw : Str} {i : Int} {e : Expr} {es : List Expr} {ms : Exs} {p1 pos : Pos} (hK : X.K = C.K) (ht : C.T.tab f = some fn) (F : CallDf X C.T C.m f fn kw i) (hx : C.T.name f = x)
    (hr : Room (C.m + 4) X.A) (hg : Gl X x) (pass : ∀ σ, PassesAt (L2.CX X.prog X.w) X σ (WE C.W σ)) (ha : PA X (e :: es) (tVs C ms)) (h1 : notStar e = true) (h2 : es.all notStar = true) (hd : (x == ("__debug__" : Str)) = false) : SE C X (.callD f ms i) (.Call (.Name x p1) (e :: es) [] pos) := by
  obtain ⟨fa, fd, ps, hnp, G, hm, hk, ⟨dv, hdv, hb⟩, _⟩ := F.ex
  rw [hx] at hm
  refine .of hK rfl (fun _ => rfl) (fun _ => rfl) (pe_imp (pe_callSD G hr hg hm hk hb hdv pass ha hd (star_of h1) (stars_of h2)) fun σ H Q ⟨G, ω, c, R, p⟩ => ⟨G, ω, c, R, ?_⟩)
  simp only [den, Den.of] at p
  refine p.bind fun ds c1 ω1 H1 vs _ s1 R1 q1 p1 => ?_
  cases er : C.k.f f (ds ++ [.int i]) with
  | none => rw [er] at p1; exact p1.elim
  | some r =>
    rw [er] at p1
    have q2 := dq_snoc (.int i) q1
    refine ⟨(dps_len q2).trans ((callN_args ht er).trans hnp.symm), ω1, _, R1.dom, hK ▸ q2, ?_⟩
    rw [show (callN C.T.tab C.m).f f (ds ++ [.int i]) = some r from er]
    cases r with
    | inl w => exact fun ω' H' v s' k' q' => p1 ω' H' v (s'.mono (Nat.le_succ _)) (R1.step s' (Nat.lt_succ_self _) k') (hK ▸ q')
    | inr x => exact fun ω' H' d s' k' q' => p1 ω' H' d (s'.mono (Nat.le_succ _)) (R1.step s' (Nat.lt_succ_self _) k') (hK ▸ q')
/-- f(e, k = v) -/
noncomputable def tCallNS (n m : Nat) (sp : Sp) (gV : List V → List V → List V) (E : L2.St → XK) (t tk : TA) : TE := fun σ H Q => t σ H fun vs H1 => tk σ H1 fun zs H2 => vs.length = n ∧ zs.length = m ∧ sp (gV vs zs) H2 Q (E σ)
theorem pe_callNS {CX : CXT} {k n : Nat} {f : Addr} {fd : FuncData} {ps ks : List Str} {sp : Sp} {E : L2.St → XK} {x : Str} {p pos : Pos} {e : Expr} {es : List Expr} {kws : List Keyword} {t tk : TA} {g : List Value → List Value → List Value} {gV : List V → List V → List V}
    (F : FnOk X.prog X.w X.K X.mg X.base CX k f fd ps sp) (hr : Room k X.A) (hg : Gl X x) (hm : X.mg x = some (.ref f)) (hk : PySem.W.keepIn X.K (.ref f) = true) (hb : KBn X.K fd ps n ks g gV) (hx : ∀ σ, PassesAt CX X σ (E σ))
    (ha : PA X (e :: es) t) (hkw : PK X kws tk) (hall : (backToKw pos (keywordEach kws X.env)).all (·.1.isSome) = true) (hks : (backToKw pos (keywordEach kws X.env)).filterMap (·.1) = ks)
    (hdb : (x == ("__debug__" : Str)) = false) (he : starEach (e :: es) X.env = (false, eval e X.env) :: starEach es X.env)
    (hpl : ((backTo pos (starEach (e :: es) X.env)).any (·.1) || (backToKw pos (keywordEach kws X.env)).any (·.1.isNone)) = false) : PE X (.Call (.Name x p) (e :: es) kws pos) (tCallNS n ks.length sp gV E t tk) := by
  refine ⟨fun pins s σ H Q I h => wpAny_Call_Name_kw (ld_glob I hg hm ?_ hdb)⟩
  refine PySem.W.callWith_KW (h₀ := X.base) I.ok.mod.kin hk hall (thn (ha.run pos pins s σ H _ I h) fun us s1 ⟨vs, H1, I1, r, q⟩ => thn (hkw.run pos pins s1 σ H1 _ I1 q) fun ws s2 ⟨zs, H2, I2, rz, l1, l2, q2⟩ => ⟨I2.kIn, ?_⟩) hpl he
  rw [hks]
  have r2 := hb.rel r rz
  refine wpAny_call (codeAny_mono (F.run X.A X.stack s2 H2 ⟨us, ks.zip ws⟩ (g us ws) (gV vs zs) Q (E σ) hr I2.env0 (hb.to s2 us ws I2.kIn (r.length.symm.trans l1) (rz.length.symm.trans l2)) r2 q2) fun rr s' hq => ?_)
  match rr, hq with
  | .error e, hq => exact hx σ pins H2 s2 e s' I2 hq
  | .ok (.ret u), hq => exact I2.after hq
theorem se_callK {f : Nat} {fn : Fn} {x kw : Str} {i : Int} {e e2 : Expr} {m m2 : Ex} {p1 p2 pos : Pos} (hK : X.K = C.K) (ht : C.T.tab f = some fn) (F : CallDf X C.T C.m f fn kw i) (hx : C.T.name f = x)
    (hr : Room (C.m + 4) X.A) (hg : Gl X x) (pass : ∀ σ, PassesAt (L2.CX X.prog X.w) X σ (WE C.W σ)) (hm : SE C X m e) (hm2 : SE C X m2 e2) (h1 : notStar e = true) (hd : (x == ("__debug__" : Str)) = false) :
    SE C X (.callK f kw (.cons m (.cons m2 .nil))) (.Call (.Name x p1) [e] [⟨some kw, e2, p2⟩] pos) := by
  obtain ⟨fa, fd, ps, hnp, G, hmg, hk, _, g, gV, hb, hgV⟩ := F.ex
  rw [hx] at hmg
  refine .of hK rfl (fun _ => rfl) (fun _ => rfl) (pe_imp (pe_callNS G hr hg hmg hk hb pass (pa_cons hm.v pa_nil (star_of h1)) (pk_cons hm2.v pk_nil) rfl rfl hd (star_of h1) (by rw [star_of h1]; rfl)) fun σ H Q ⟨G, ω, c, R, p⟩ => ⟨G, ω, c, R, ?_⟩)
  simp only [den, Den.of, denVs, Rs.bind_assoc, Rs.bind_ok] at p
  refine p.bind fun d c1 ω1 H1 v _ s1 R1 q1 p1 => ⟨G, ω1, c1, R1, p1.bind fun d2 c2 ω2 H2 z _ s2 R2 q2 p2 => ?_⟩
  cases er : C.k.f f [d, d2] with
  | none => rw [er] at p2; exact p2.elim
  | some r =>
    rw [er] at p2
    have q : DqAll C.K (hide H2 ω2) [v, z] [d, d2] := .cons (RV.step q1 s2) (.cons q2 .nil)
    have en : 2 = fn.np := callN_args ht er
    show [v].length = fn.np - 1 ∧ [z].length = 1 ∧ spF C.T X.K C.m f ps.length (gV [v] [z]) H2 Q (WE C.W σ)
    rw [hgV]
    refine ⟨by rw [← en]; rfl, rfl, by rw [hnp, ← en]; rfl, ω2, _, R2.dom, hK ▸ q, ?_⟩
    rw [show (callN C.T.tab C.m).f f [d, d2] = some r from er]
    cases r with
    | inl w => exact fun ω' H' v s' k' q' => p2 ω' H' v (s'.mono (Nat.le_succ _)) (R2.step s' (Nat.lt_succ_self _) k') (hK ▸ q')
    | inr x => exact fun ω' H' d s' k' q' => p2 ω' H' d (s'.mono (Nat.le_succ _)) (R2.step s' (Nat.lt_succ_self _) k') (hK ▸ q')
end
end Rp

/-! Rp, part J: str(int), a.join(xs), a.index(b) of texts. -/
namespace Rp
open PySem PySem.Spec PyProof.Rows L2
section
variable {C : C0} {X : Cx}
theorem strOk_of (s : String) : PyData.strOk (s : Str) = true := by
  unfold PyData.strOk
  rw [Str.ofString_eq_toList]
  rw [Array.all_eq_true']
  intro x hx
  obtain ⟨c, _, rfl⟩ := List.mem_map.mp (by simpa using hx)
  have := c.valid
  unfold UInt32.isValidChar Nat.isValidChar at this
  have e : c.toNat = c.val.toNat := rfl
  simp only [decide_eq_true_eq]
  omega
theorem log2_lt {n : Nat} (h : n < 2 ^ 64) : n.log2 < 1920 := by
  by_cases z : n = 0
  · subst z; decide
  · have := (Nat.log2_lt z).2 h
    omega
theorem crD_strO : CallR X (.type "str") (rDn C .strO) := by
  intro pins s σ H xs us Q I r ⟨σ', ds, w, G, ω, c, R, q, ew, k⟩
  cases q with
  | nil => cases ew
  | cons q qs =>
    cases qs with
    | cons _ _ => rename_i d _ _ _ _ _ _; cases d <;> cases ew
    | nil =>
      rename_i x d
      cases d with
      | int i =>
        simp only [prim] at ew
        split at ew
        · rename_i hz
          cases ew
          cases q.int
          exact call_str_int pins s σ H _ us Q I r ⟨i, rfl, log2_lt (of_decide_eq_true hz), ret_val R (.str _ (strOk_of _)) k⟩
        · cases ew
      | _ => cases ew
theorem dStrs_ok {K : PySem.W.Frag} {H : Hp} : ∀ {vs : List V} {ds : List D} {ys : List Str}, DqAll K H vs ds → dStrs ds = some ys → vs = ys.map V.str ∧ ∀ y ∈ ys, PyData.strOk y = true
  | _, _, _, .nil, e => by cases e; exact ⟨rfl, fun _ h => by cases h⟩
  | _, _, _, .cons (d := d) a b, e => by
    cases d with
    | str i =>
      simp only [dStrs, Option.map_eq_some_iff] at e
      obtain ⟨r, e1, rfl⟩ := e
      cases a with
      | str _ ok =>
        obtain ⟨h1, h2⟩ := dStrs_ok b e1
        refine ⟨by rw [List.map_cons, h1], fun y hy => ?_⟩
        rcases List.mem_cons.1 hy with rfl | hy
        · exact ok
        · exact h2 y hy
    | _ => cases e
theorem strOk_join {a : Str} (ha : PyData.strOk a = true) : ∀ {ys : List Str}, (∀ y ∈ ys, PyData.strOk y = true) → PyData.strOk (Str.join a ys) = true
  | [], _ => by unfold Str.join; decide +kernel
  | [x], h => h x List.mem_cons_self
  | x :: y :: r, h => strOk_app (strOk_app (h x List.mem_cons_self) ha) (strOk_join ha (ys := y :: r) fun z hz => h z (List.mem_cons_of_mem _ hz))
/-- a text that is written in the program -/
noncomputable def txtOf : Ex → Option Str
  | .con (.str s) => some s
  | .glo _ (.str s) => some s
  | _ => none
theorem txtOf_ok {k : Call} {m : Ex} {s : Str} {c c1 : Cfg} {d : D} (h : txtOf m = some s) (e : peekR m c ((den k m).v c) = .ok d c1) : d = .str s := by
  unfold txtOf at h
  split at h
  · cases h; simp only [peekR, den, Den.of, frzR, Rs.bind_ok, frz] at e; cases e; rfl
  · cases h; simp only [peekR, den, Den.of, frzR, Rs.bind_ok, frz] at e; cases e; rfl
  · cases h
theorem se_join {s : Str} {o e : Expr} {apos cpos : Pos} {ma mb : Ex} (hK : X.K = C.K) (hm : txtOf ma = some s) (ha : SE C X ma o) (hb : SE C X mb e) (hs : notStar e = true) (hbase : attributeBase o "join" X.env (eval o X.env) = eval o X.env) (hl : (apos.endLine == cpos.line) = true) :
    SE C X (.pr .join (.cons ma (.cons mb .nil))) (.Call (.Attribute o "join" apos) [e] [] cpos) := by
  have pe := pe_join (apos := apos) (pos := cpos) ha.p hb.p (by rw [star_of hs]; rfl) hbase hl
  refine .of hK rfl (fun _ => rfl) (fun _ => rfl) (pe_imp pe fun σ H Q h => ?_)
  obtain ⟨G, ω, c, R, q⟩ := h
  refine ⟨G, ω, c, R, ?_⟩
  simp only [den, Den.of, denPs, Rs.bind_assoc, Rs.bind_ok] at q
  refine q.bind fun d c1 ω1 H1 x e1 s1 R1 q1 p1 => ?_
  cases txtOf_ok hm e1
  cases q1.str
  refine ⟨⟨_, rfl⟩, G, ω1, c1, R1, p1.bind fun d2 c2 ω2 H2 y _ s2 R2 q2 p2 => ?_⟩
  cases ew : prim .join [.str s, d2] with
  | none => rw [ew] at p2; exact p2.elim
  | some w =>
    rw [ew] at p2
    cases d2 with
    | list l =>
      obtain ⟨a, vs, rfl, t1, r1⟩ := q2.list
      have ew : ((dStrs l).bind fun ys => if (ys.map (·.length)).sum + ys.length * s.length ≤ big then some (W.val (.str (Str.join s ys))) else none) = some w := ew
      simp only [Option.bind_eq_some_iff] at ew
      obtain ⟨ys, e2, e3⟩ := ew
      split at e3
      · rename_i hz
        cases e3
        obtain ⟨rfl, ok⟩ := dStrs_ok r1 e2
        refine ⟨s, a, ys, rfl, rfl, .inl (.inl t1), hz, ?_⟩
        rw [TL.join_eq]
        exact ret_val R2 (.str _ (strOk_join q1.strOk ok)) p2
      · cases e3
    | _ => cases ew
theorem se_idxS {s : Str} {o e : Expr} {apos cpos : Pos} {ma mb : Ex} (hK : X.K = C.K) (hm : txtOf ma = some s) (ha : SE C X ma o) (hb : SE C X mb e) (hs : notStar e = true) (hbase : attributeBase o "index" X.env (eval o X.env) = eval o X.env) (hl : (apos.endLine == cpos.line) = true) :
    SE C X (.pr .idxS (.cons ma (.cons mb .nil))) (.Call (.Attribute o "index" apos) [e] [] cpos) := by
  have pe := pe_m1 (pos := cpos) PySem.F.slot_str_index PySem.F.type_str_index mt_sindex ha.p hb.p (by rw [star_of hs]; rfl) hbase hl
  refine .of hK rfl (fun _ => rfl) (fun _ => rfl) (pe_imp pe fun σ H Q h => ?_)
  obtain ⟨G, ω, c, R, q⟩ := h
  refine ⟨G, ω, c, R, ?_⟩
  simp only [den, Den.of, denPs, Rs.bind_assoc, Rs.bind_ok] at q
  refine q.bind fun d c1 ω1 H1 x e1 s1 R1 q1 p1 => ?_
  cases txtOf_ok hm e1
  cases q1.str
  refine ⟨⟨_, rfl⟩, G, ω1, c1, R1, p1.bind fun d2 c2 ω2 H2 y _ s2 R2 q2 p2 => ?_⟩
  cases ew : prim .idxS [.str s, d2] with
  | none => rw [ew] at p2; exact p2.elim
  | some w =>
    rw [ew] at p2
    cases d2 with
    | str b =>
      cases q2.str
      have ew : (fndS s b).bind (fun j => vI (j : Nat)) = some w := ew
      simp only [Option.bind_eq_some_iff] at ew
      obtain ⟨j, e2, e3⟩ := ew
      cases vI_eq e3
      unfold fndS at e2
      cases eo : Builtin.Str.occurrences s b 0 s.length 1 with
      | nil => rw [eo] at e2; cases e2
      | cons i rest =>
        rw [eo] at e2
        have e2 : i = j := by simpa using e2
        subst e2
        exact ⟨s, b, i, rest, rfl, rfl, eo, ret_val R2 (.int _) p2⟩
    | _ => cases ew
end
end Rp

/-! Rp, part E: dicts that are displayed in a def. -/
namespace Rp
open PySem PySem.Spec PyProof.Rows L2
/-! ### keys and values -/
noncomputable def keyed (ks : List Str) (vs : List V) : List (Key × V) := (ks.zip vs).map fun p => (.inr p.1, p.2)
theorem merge_keyed : ∀ (ks : List Str) (vs : List V) (acc : List (Key × V)), ks.Nodup → (∀ k ∈ ks, ∀ p ∈ acc, p.1 ≠ .inr k) → mergeK acc (keyed ks vs) = acc ++ keyed ks vs
  | [], _, acc, _, _ => by simp [keyed, mergeK]
  | _ :: _, [], acc, _, _ => by simp [keyed, mergeK]
  | k :: ks, v :: vs, acc, hn, ha => by
    rw [List.nodup_cons] at hn
    have e : putK acc (.inr k) v = acc ++ [(.inr k, v)] := by
      unfold putK
      rw [if_neg]
      simp only [List.any_eq_true, decide_eq_true_eq, not_exists, not_and]
      exact fun p hp => ha k List.mem_cons_self p hp
    show mergeK (putK acc (.inr k) v) (keyed ks vs) = _
    rw [e, merge_keyed ks vs _ hn.2 fun x hx p hp => ?_]
    · rw [List.append_assoc]; rfl
    · rcases List.mem_append.mp hp with hp | hp
      · exact ha x (List.mem_cons_of_mem _ hx) p hp
      · rw [List.mem_singleton.mp hp]
        intro z
        cases z
        exact hn.1 hx
theorem valV_keyed {K : PySem.W.Frag} {H : Hp} {s : Str} : ∀ (ks : List Str) (vs : List V) (ds : List D), DqAll K H vs ds → (match (ks.zip ds).lookup s with
    | some d => ∃ v, valV (keyed ks vs) (.inr s) = some v ∧ Dq K H v d
    | none => valV (keyed ks vs) (.inr s) = none)
  | [], _, _, _ => rfl
  | _ :: _, [], [], _ => rfl
  | k :: ks, v :: vs, d :: ds, .cons h r => by
    have ih := valV_keyed (s := s) ks vs ds r
    rw [List.zip_cons_cons, List.lookup_cons]
    by_cases c : s = k
    · subst c
      rw [beq_self_eq_true]
      refine ⟨v, ?_, h⟩
      simp [valV, keyed]
    · rw [show (s == k) = false by simpa using c]
      have e : valV (keyed (k :: ks) (v :: vs)) (.inr s) = valV (keyed ks vs) (.inr s) := by
        unfold valV keyed
        rw [List.zip_cons_cons, List.map_cons, List.find?_cons]
        have : decide ((Sum.inr k : Key) = .inr s) = false := by simpa using fun z => c z.symm
        simp only [this]
      simp only [e]
      exact ih
section
variable {C : C0} {X : Cx}
noncomputable def trsOf (C : C0) : List Str → Exs → List (TE × TE)
  | k :: ks, .cons m ms => (tC (.str k), tV C m) :: trsOf C ks ms
  | _, _ => []
theorem tPairs_of {Q : List (V × V) → Hp → Prop} : ∀ (ks : List Str) (ms : Exs) (σ : L2.St) (H : Hp) (P : List V → List (V × V)), ks.length = ms.len →
    tVs C ms σ H (fun vs H1 => vs.length = ks.length → Q (P vs) H1) → (∀ vs, P vs = (keyed ks vs).map fun kv => (kV kv.1, kv.2)) → tPairs (trsOf C ks ms) σ H Q := by
  intro ks
  induction ks generalizing Q with
  | nil =>
    intro ms σ H P hl h hP
    cases ms with
    | nil =>
      obtain ⟨G, ω, c, R, q⟩ := h
      have := q ω H [] (Stp.refl R.dom) R .nil rfl
      rw [hP] at this
      exact this
    | cons m ms => simp [Exs.len] at hl
  | cons k ks ih =>
    intro ms σ H P hl h hP
    cases ms with
    | nil => simp [Exs.len] at hl
    | cons m ms =>
      obtain ⟨G, ω, c, R, p⟩ := h
      simp only [denVs] at p
      have hl' : ks.length = ms.len := by simpa [Exs.len] using hl
      refine (⟨G, ω, c, R, p.bind fun d c1 ω1 H1 v _ s1 R1 q1 p1 => ?_⟩ : tV C m σ H _)
      refine ih (Q := fun ps H3 => Q ((.str k, v) :: ps) H3) ms σ H1 (fun vs => (keyed ks vs).map fun kv => (kV kv.1, kv.2)) hl' ⟨G, ω1, c1, R1, p1.bind fun ds c2 ω2 H2 vs _ s2 R2 q2 p2 hv => ?_⟩ fun _ => rfl
      have := p2 ω2 H2 (v :: vs) (Stp.refl R2.dom) R2 (.cons (RV.step q1 s2) q2) (by simp [hv])
      rw [hP] at this
      exact this
/-- behind a display: the dict stands, hidden -/
theorem Rel.tmpMut {n : Lv} {K : PySem.W.Frag} {G : Gh} {ω : Om} {σ : L2.St} {H : Hp} {c : Cfg} {p : Addr} {o : HO} (R : Rel n K G ω σ H c) (hp : ω p = some .tmp) (h0 : G.H0 p = none) : Rel n K G ω σ (upd H p o) c := by
  have hH : H p ≠ none := R.dom p _ hp
  have sm : Same (hide H ω) (hide (upd H p o) ω) := fun a u h => by
    obtain ⟨h1, h2⟩ := hide_some h
    have na : a ≠ p := fun z => by rw [z, hp] at h2; cases h2
    rw [hide_free h2, upd_ne na]
    exact h1
  refine ⟨R.stp.mut h0 hH, fun i w e => (R.slot i w e).move ⟨sm, fun a vs e1 h1 => ⟨e1, ?_⟩, fun a x k u e1 _ h1 => ⟨e1, ?_⟩⟩, R.len, fun a u x k e1 e2 e3 e4 => ?_⟩
  · rw [upd_ne (fun z => by rw [z, hp] at e1; cases e1)]; exact h1
  · rw [upd_ne (fun z => by rw [z, hp] at e1; cases e1)]; exact h1
  · rw [upd_ne (fun z => by rw [z, h0] at e4; cases e4)]; exact R.okp a u x k e1 e2 e3 e4
theorem Rel.blank {n : Lv} {K : PySem.W.Frag} {G : Gh} {ω : Om} {σ : L2.St} {H : Hp} {c : Cfg} {i : Nat} {x : Option V} (R : Rel n K G ω σ H c) : Rel n K G ω (σ.set i x) H (setS c i none) := by
  refine ⟨R.stp, fun j w e => ?_, by unfold setS; simp only [List.length_set]; exact R.len, R.okp⟩
  rcases getS_out e with ⟨e1, e2⟩ | ⟨ne, e2⟩
  · cases e2
  · exact (R.slot j w e2).at (List.getElem?_set_ne (Ne.symm ne))
/-- {..} of constants -/
noncomputable def trsK : List (Str × Int) → List (TE × TE)
  | [] => []
  | (k, i) :: r => (tC (.str k), tC (.int i)) :: trsK r
noncomputable def kvK (kvs : List (Str × Int)) : List (Key × V) := kvs.map fun p => (.inr p.1, .int p.2)
theorem tPairs_K {Q : List (V × V) → Hp → Prop} : ∀ (kvs : List (Str × Int)) (σ : L2.St) (H : Hp), Q ((kvK kvs).map fun kv => (kV kv.1, kv.2)) H → tPairs (trsK kvs) σ H Q := by
  intro kvs
  induction kvs generalizing Q with
  | nil => exact fun σ H h => h
  | cons p r ih =>
    intro σ H h
    obtain ⟨k, i⟩ := p
    exact ih (Q := fun ps H3 => Q ((.str k, .int i) :: ps) H3) σ H h
theorem kvK_keyed : ∀ kvs : List (Str × Int), kvK kvs = keyed (kvs.map (·.1)) (kvs.map fun p => .int p.2)
  | [] => rfl
  | p :: r => by
    have := kvK_keyed r
    unfold kvK keyed at this ⊢
    rw [List.map_cons, List.map_cons, List.map_cons, List.zip_cons_cons, List.map_cons, this]
theorem valV_K {s : Str} : ∀ kvs : List (Str × Int), ((valV (kvK kvs) (.inr s)).getD (.int z)) = .int ((kvs.lookup s).getD z)
  | [] => rfl
  | (k, i) :: r => by
    have ih := valV_K (s := s) (z := z) r
    by_cases c : s = k
    · subst c
      simp [valV, kvK]
    · have e : valV (kvK ((k, i) :: r)) (.inr s) = valV (kvK r) (.inr s) := by
        unfold valV kvK
        rw [List.map_cons, List.find?_cons]
        have : decide ((Sum.inr k : Key) = .inr s) = false := by simpa using fun z => c z.symm
        simp only [this]
      rw [e, ih, List.lookup_cons, show (s == k) = false by simpa using c]
theorem se_dget {kvs : List (Str × Int)} {z : Int} {m : Ex} {e f : Expr} {keys : List (Option Expr)} {values : List Expr} {pd apos cpos : Pos} (hK : X.K = C.K) (hu : X.A.units + 1 < cLine) (pp : PPs X pd keys values (trsK kvs)) (hall : keys.all (·.isSome) = true) (hl : keys.length = values.length) (h0 : keys ≠ []) (h15 : keys.length ≤ 15) (hn : (kvs.map (·.1)).Nodup) (hlen : kvs.length ≤ 15)
    (he : SE C X m e) (hf : PE X f (tC (.int z))) (mm : M2 X (.Dict keys values pd) "get" apos e f cpos) : SE C X (.dget kvs m z) (.Call (.Attribute (.Dict keys values pd) "get" apos) [e, f] [] cpos) := by
  refine .of hK rfl (fun _ => rfl) (fun _ => rfl) (pe_imp (pe_dget2 hu (pe_disp pp hall hl h0 h15) he.v hf mm) fun σ H Q ⟨G, ω, c, R, q⟩ => ?_)
  simp only [den, Den.of] at q
  intro p hp
  refine tPairs_K kvs σ (upd H p (.dK [])) ⟨upd_same, kvK kvs, rfl, by unfold kvK; rw [List.length_map]; exact hlen, ?_⟩
  have em : mergeK [] (kvK kvs) = kvK kvs := by
    rw [kvK_keyed, merge_keyed _ _ [] hn (fun _ _ p hp => by cases hp)]
    rfl
  have eu : upd (upd H p (.dK [])) p (.dK (mergeK [] (kvK kvs))) = upd H p (.dK (kvK kvs)) := by
    rw [em]
    funext a
    by_cases z : a = p
    · rw [z, upd_same, upd_same]
    · rw [upd_ne z, upd_ne z, upd_ne z]
  rw [eu]
  have s0 := Stp.new (n := C.l) (o := HO.dK (kvK kvs)) R.dom hp
  refine ⟨p, rfl, .inl ⟨kvK kvs, .inl upd_same⟩, ⟨G, ω, c, R.new hp, (Post.step q s0).bind fun d c1 ω1 H1 y _ s1 R1 q1 p1 => ?_⟩⟩
  cases d with
  | str s =>
    rw [RP.str (show RP C.K ω1 H1 y (.str s) from .inl q1)]
    have h1 : H1 p = some (.dK (kvK kvs)) := s1.keep p _ upd_same fun x k e => by rw [R.dom.free hp] at e; cases e
    refine ⟨_, DGet.k (k := .inr s) h1, ?_⟩
    rw [valV_K]
    exact p1 ω1 H1 _ (Stp.refl R1.dom) R1 (.int _)
  | _ => exact p1.elim
theorem pss_dsel {i j n : Nat} {k1 k2 : List Str} {m1 m2 : Exs} {x y z : Str} {keys1 keys2 : List (Option Expr)} {vals1 vals2 : List Expr} {p0 p1 p2 p3 p4 p5 p6 p7 p8 p9 pa pb pc pd pr ps pt : Pos} (hu : X.A.units + 1 < cLine) (hN : X.N.Nodup) (hij : i ≠ j) (hin : n ≠ i) (hjn : n ≠ j)
    (hi : X.N[i]? = some x) (hx : Loc X.env.scope x) (hfx : X.fn x = true ∨ X.env.scope.names.lookup x = some .local) (vx : Vis X.env.scope x) (dx1 : (x == ("__debug__" : Str)) = false) (dx2 : (x == ("__classdict__" : Str)) = false)
    (hj : X.N[j]? = some y) (hy : Loc X.env.scope y) (hfy : X.fn y = true ∨ X.env.scope.names.lookup y = some .local) (vy : Vis X.env.scope y) (dy1 : (y == ("__debug__" : Str)) = false) (dy2 : (y == ("__classdict__" : Str)) = false)
    (hn : X.N[n]? = some z) (vz : Vis X.env.scope z) (dz1 : (z == ("__debug__" : Str)) = false) (dz2 : (z == ("__classdict__" : Str)) = false)
    (pp1 : PPs X p1 keys1 vals1 (trsOf C k1 m1)) (a1 : keys1.all (·.isSome) = true) (l1 : keys1.length = vals1.length) (z1 : keys1 ≠ []) (f1 : keys1.length ≤ 15) (n1 : k1.Nodup) (e1 : k1.length = m1.len) (g1 : k1.length ≤ 15)
    (pp2 : PPs X p4 keys2 vals2 (trsOf C k2 m2)) (a2 : keys2.all (·.isSome) = true) (l2 : keys2.length = vals2.length) (z2 : keys2 ≠ []) (f2 : keys2.length ≤ 15) (n2 : k2.Nodup) (e2 : k2.length = m2.len) (g2 : k2.length ≤ 15) :
    PSs X [.Assign [.Name x p0] (.Dict keys1 vals1 p1) p2, .Assign [.Name y p3] (.Dict keys2 vals2 p4) p5, .Return (some (.IfExp (.Compare (.Name z p6) [.In] [.Name x p7] p8) (.Subscript (.Name x p9) (.Name z pa) pb) (.Subscript (.Name y pc) (.Name z pd) pr) ps)) pt] (tS C (exSs C.k (.dsel i j n k1 m1 k2 m2))) := by
  refine pss_imp (pss_cons (ps_asg (pe_disp pp1 a1 l1 z1 f1) (pg_name hN hi hx hfx) rfl) (pss_cons (ps_asg (pe_disp pp2 a2 l2 z2 f2) (pg_name hN hj hy hfy) rfl)
    (pss_one (ps_ret (pe_ifExp (pt_cmp (pc_din hu (pe_var hn vz dz1 dz2) (pe_var hi vx dx1 dx2)) rfl) (pe_dget hu (pe_var hi vx dx1 dx2) (pe_var hn vz dz1 dz2) (fun _ _ => rfl)) (pe_dget hu (pe_var hj vy dy1 dy2) (pe_var hn vz dz1 dz2) (fun _ _ => rfl))))))) fun DD σ H ⟨G, ω, c, R, q⟩ => ?_
  simp only [exSs] at q
  by_cases hlt : i < c.env.length ∧ j < c.env.length
  case neg => rw [if_neg hlt] at q; exact q.elim
  rw [if_pos hlt] at q
  have ci : i < σ.length := by rw [← R.len]; exact hlt.1
  have cj : j < σ.length := by rw [← R.len]; exact hlt.2
  have h00 : ∀ p, H p = none → G.H0 p = none := fun p hp => by
    cases e : G.H0 p with
    | none => rfl
    | some o => exact absurd hp (R.stp.grow p (by rw [e]; simp))
  intro p hp
  have s0 : Stp C.l ω H (setO ω p (some .tmp)) (upd H p (.dK [])) := Stp.newO R.dom hp
  refine tPairs_of k1 m1 σ _ (fun vs => (keyed k1 vs).map fun kv => (kV kv.1, kv.2)) e1 ⟨G, setO ω p (some .tmp), c, R.newT hp, PostS.bind (PostS.step q s0.same) fun d1 c1 ω1 H1 vs s1 R1 r1 q1 hv => ?_⟩ (fun _ => rfl)
  have hp1 : H1 p = some (.dK []) := s1.keep p _ upd_same fun u k e => by rw [setO_same] at e; cases e
  have ho1 : ω1 p = some .tmp := (s1.own p .tmp setO_same).elim id fun ⟨_, _, h, _⟩ => by cases h
  refine ⟨hp1, keyed k1 vs, rfl, by unfold keyed; rw [List.length_map, List.length_zip]; omega, ?_⟩
  rw [merge_keyed k1 vs [] n1 (fun _ _ _ h => by cases h), List.nil_append]
  have R2 := (R1.tmpMut (o := .dK (keyed k1 vs)) ho1 (h00 p hp)).blank (i := i) (x := some (.ref p))
  have sm2 : Same (hide H1 ω1) (hide (upd H1 p (.dK (keyed k1 vs))) ω1) := fun a u h => by
    obtain ⟨w1, w2⟩ := hide_some h
    rw [hide_free w2, upd_ne (fun z => by rw [z, ho1] at w2; cases w2)]
    exact w1
  intro p' hp'
  have s2 : Stp C.l ω1 (upd H1 p (.dK (keyed k1 vs))) (setO ω1 p' (some .tmp)) (upd (upd H1 p (.dK (keyed k1 vs))) p' (.dK [])) := Stp.newO R2.dom hp'
  have npp : p ≠ p' := fun z => by rw [← z, upd_same] at hp'; cases hp'
  refine tPairs_of k2 m2 _ _ (fun vs => (keyed k2 vs).map fun kv => (kV kv.1, kv.2)) e2 ⟨G, setO ω1 p' (some .tmp), setS c1 i none, R2.newT hp', PostS.bind (PostS.step q1 (sm2.trans s2.same)) fun d2 c2 ω2 H2 us s3 R3 r2 q2 hv2 => ?_⟩ (fun _ => rfl)
  have hp2 : H2 p' = some (.dK []) := s3.keep p' _ upd_same fun u k e => by rw [setO_same] at e; cases e
  have ho2 : ω2 p' = some .tmp := (s3.own p' .tmp setO_same).elim id fun ⟨_, _, h, _⟩ => by cases h
  have ho1' : setO ω1 p' (some .tmp) p = some .tmp := by rw [setO_ne npp]; exact ho1
  have hp1' : H2 p = some (.dK (keyed k1 vs)) := s3.keep p _ (by rw [upd_ne npp, upd_same]) fun u k e => by rw [ho1'] at e; cases e
  refine ⟨hp2, keyed k2 us, rfl, by unfold keyed; rw [List.length_map, List.length_zip]; omega, ?_⟩
  rw [merge_keyed k2 us [] n2 (fun _ _ _ h => by cases h), List.nil_append]
  have hp'0 : G.H0 p' = none := by
    cases e : G.H0 p' with
    | none => rfl
    | some o => exact absurd hp' (R2.stp.grow p' (by rw [e]; simp))
  have R4 := (R3.tmpMut (o := .dK (keyed k2 us)) ho2 hp'0).blank (i := j) (x := some (.ref p'))
  have sm4 : Same (hide H2 ω2) (hide (upd H2 p' (.dK (keyed k2 us))) ω2) := fun a u h => by
    obtain ⟨w1, w2⟩ := hide_some h
    rw [hide_free w2, upd_ne (fun z => by rw [z, ho2] at w2; cases w2)]
    exact w1
  have q3 := PostS.step q2 sm4
  have hA : upd H2 p' (.dK (keyed k2 us)) p = some (.dK (keyed k1 vs)) := by rw [upd_ne npp]; exact hp1'
  have hB : upd H2 p' (.dK (keyed k2 us)) p' = some (.dK (keyed k2 us)) := upd_same
  have t1 := r1
  have D1 : DqAll C.K (hide (upd H2 p' (.dK (keyed k2 us))) ω2) vs d1 := dps_mono ((sm2.trans s2.same).trans (s3.same.trans sm4)) _ _ r1
  have D2 : DqAll C.K (hide (upd H2 p' (.dK (keyed k2 us))) ω2) us d2 := dps_mono sm4 _ _ r2
  generalize upd H2 p' (.dK (keyed k2 us)) = HF at *
  have σi : ((σ.set i (some (.ref p))).set j (some (.ref p')))[i]? = some (some (.ref p)) := by
    rw [List.getElem?_set_ne (Ne.symm hij), List.getElem?_set_self ci]
  have σj : ((σ.set i (some (.ref p))).set j (some (.ref p')))[j]? = some (some (.ref p')) := by
    rw [List.getElem?_set_self (by rw [List.length_set]; exact cj)]
  revert q3
  cases eg : getS (setS c2 j none) n with
  | none => exact fun q3 => q3.elim
  | some w =>
    cases w with
    | val d =>
      cases d with
      | str s =>
        intro q3
        dsimp only at q3
        obtain ⟨vn, en, qn⟩ := R4.slot n _ eg
        have en' : vn = .str s := RP.str (show RP C.K ω2 HF vn (.str s) from .inl qn)
        subst en'
        refine ⟨.str s, en, .ref p, σi, p, valV (keyed k1 vs) (.inr s), rfl, DGet.k (k := .inr s) hA, _, rfl, ?_⟩
        have V1 := valV_keyed (s := s) k1 vs d1 D1
        cases el : (k1.zip d1).lookup s with
        | some d =>
          rw [el] at q3 V1
          obtain ⟨v, ev, dq⟩ := V1
          rw [ev]
          exact ⟨.ref p, σi, .str s, en, p, v, rfl, by rw [← ev]; exact DGet.k (k := .inr s) hA, q3 ω2 _ HF v (Same.refl _) R4 dq⟩
        | none =>
          rw [el] at q3 V1
          dsimp only at q3 V1
          rw [V1]
          have V2 := valV_keyed (s := s) k2 us d2 D2
          cases el2 : (k2.zip d2).lookup s with
          | some d =>
            rw [el2] at q3 V2
            obtain ⟨v, ev, dq⟩ := V2
            exact ⟨.ref p', σj, .str s, en, p', v, rfl, by rw [← ev]; exact DGet.k (k := .inr s) hB, q3 ω2 _ HF v (Same.refl _) R4 dq⟩
          | none =>
            rw [el2] at q3
            exact q3.elim
      | _ => exact fun q3 => q3.elim
    | _ => exact fun q3 => q3.elim
theorem pe_callS0 {CX : CXT} {k : Nat} {f : Addr} {fd : FuncData} {ps : List Str} {sp : Sp} {E : L2.St → XK} {x : Str} {p pos : Pos} (F : FnOk X.prog X.w X.K X.mg X.base CX k f fd ps sp) (hr : Room k X.A) (hg : Gl X x) (hm : X.mg x = some (.ref f)) (hk : PySem.W.keepIn X.K (.ref f) = true) (hb : Binds X.K fd ps []) (hx : ∀ σ, PassesAt CX X σ (E σ))
    (hdb : (x == ("__debug__" : Str)) = false) : PE X (.Call (.Name x p) [] [] pos) (tCallSD sp [] E tNil) := by
  refine ⟨fun pins s σ H Q I h => ?_⟩
  refine wpAny_Call_Name_kw (ld_glob I hg hm ?_ hdb)
  exact PySem.W.callWith_K0 I.kIn hk (run_fnSD (us := []) (dvs := []) F hr hb .nil (hx σ) I .nil h)
/-- a call without arguments -/
theorem se_call0 {f : Nat} {fn : Fn} {x : Str} {p1 pos : Pos} (hK : X.K = C.K) (ht : C.T.tab f = some fn) (F : CallOk X C.T C.m f fn) (hx : C.T.name f = x)
    (hr : Room (C.m + 4) X.A) (hg : Gl X x) (pass : ∀ σ, PassesAt (L2.CX X.prog X.w) X σ (WE C.W σ)) (hd : (x == ("__debug__" : Str)) = false) : SE C X (.call f .nil) (.Call (.Name x p1) [] [] pos) := by
  obtain ⟨fa, fd, ps, hnp, G, hm, hk, hb⟩ := F.ex
  rw [hx] at hm
  refine .of hK rfl (fun _ => rfl) (fun _ => rfl) (pe_imp (pe_callS0 G hr hg hm hk hb pass hd) fun σ H Q ⟨G, ω, c, R, p⟩ => ?_)
  simp only [den, Den.of, denVs] at p
  have p : Post C G σ ω H (match C.k.f f [] with
      | some (.inl w) => .ok w c
      | some (.inr x) => .ex x c
      | none => .no) (rW C.K) Q := p
  cases er : C.k.f f [] with
  | none => rw [er] at p; exact p.elim
  | some r =>
    rw [er] at p
    refine ⟨((callN_args ht er).trans hnp.symm), ω, [], R.dom, .nil, ?_⟩
    rw [show (callN C.T.tab C.m).f f [] = some r from er]
    cases r with
    | inl w => exact fun ω' H' v s' k' q' => p ω' H' v (s'.mono (Nat.le_succ _)) (R.step s' (Nat.lt_succ_self _) k') (hK ▸ q')
    | inr x => exact fun ω' H' d s' k' q' => p ω' H' d (s'.mono (Nat.le_succ _)) (R.step s' (Nat.lt_succ_self _) k') (hK ▸ q')
end
end Rp

/-! Rp, part 11: the checker of expressions, and what it shows. -/
namespace Rp
open PySem PySem.Spec PyProof.Rows L2

mutual
noncomputable def dEq : D → D → Bool
  | .none, .none => true
  | .bool a, .bool b => a == b
  | .int a, .int b => a == b
  | .str a, .str b => a == b
  | .list a, .list b => dEqs a b
  | .tuple a, .tuple b => dEqs a b
  | _, _ => false
noncomputable def dEqs : List D → List D → Bool
  | [], [] => true
  | a :: r, b :: s => dEq a b && dEqs r s
  | _, _ => false
end
mutual
theorem dEq_ok : ∀ {a b : D}, dEq a b = true → a = b
  | .none, b, h => by cases b <;> first | rfl | (simp [dEq] at h)
  | .bool _, b, h => by cases b <;> simp_all [dEq]
  | .int _, b, h => by cases b <;> simp_all [dEq]
  | .str _, b, h => by cases b <;> simp_all [dEq]
  | .list x, b, h => by
    cases b with
    | list y => simp only [dEq] at h; rw [dEqs_ok h]
    | _ => simp [dEq] at h
  | .tuple x, b, h => by
    cases b with
    | tuple y => simp only [dEq] at h; rw [dEqs_ok h]
    | _ => simp [dEq] at h
  | .dict _, b, h => by cases b <;> simp [dEq] at h
theorem dEqs_ok : ∀ {a b : List D}, dEqs a b = true → a = b
  | [], [], _ => rfl
  | [], _ :: _, h => by simp [dEqs] at h
  | _ :: _, [], h => by simp [dEqs] at h
  | x :: r, y :: s, h => by
    simp only [dEqs, Bool.and_eq_true] at h
    rw [dEq_ok h.1, dEqs_ok h.2]
end

/-- what is known of the program ahead of any run -/
structure St0 where
  tab : Nat → Option Fn
  name : Nat → Str
  cst : List (Str × D)
  exn : List (Str × XC)
  exp : List (Str × XC)
  hot : Bool
  dct : List (Str × List Str)
  dcv : List (Str × List (Str × D))
  dcf : List (Str × List (Str × Nat))
  isM : Nat → Bool
  mts : List (Nat × Str × Str)
  ofn : List (Nat × Str)
  ocl : List (Str × List (Str × Fi))
  inn : Bool
  dfl : List (Nat × Str × Int)
  lfn : List (Nat × Str)
noncomputable def visB (sc : Scope) (x : Str) : Bool := match sc.names.lookup x with
  | some .local => true
  | some .cell => true
  | some .free => true
  | _ => false
noncomputable def gloB (sc : Scope) (x : Str) : Bool := match sc.names.lookup x with
  | some .globalImplicit => true
  | _ => false
noncomputable def notDbg (x : Str) : Bool := !(x == ("__debug__" : Str)) && !(x == ("__classdict__" : Str)) && !(x == ("__name__" : Str))
noncomputable def nmB (N : List Str) (i : Nat) (x : Str) : Bool := N[i]? == some x
noncomputable def notSlice : Expr → Bool
  | .Slice .. => false
  | _ => true
noncomputable def notSet : Expr → Bool
  | .Set .. => false
  | _ => true
noncomputable def binP : Operator → Option P
  | .Add => some .add
  | .Sub => some .sub
  | .Mult => some .mul
  | .FloorDiv => some .fdiv
  | .Mod => some .mod
  | .Pow => some .pow
  | _ => none
noncomputable def cmpP : CmpOp → Option P
  | .Eq => some .eq
  | .NotEq => some .ne
  | .Lt => some .lt
  | .LtE => some .le
  | .Gt => some .gt
  | .GtE => some .ge
  | .In => some .inn
  | .NotIn => some .nin
  | .Is => some .isT
  | .IsNot => some .ntT
/-- a built-in of one argument -/
noncomputable def bltP (x : Str) : Option P :=
  if x == ("len" : Str) then some .len else if x == ("tuple" : Str) then some .tupO else if x == ("list" : Str) then some .lstO else if x == ("sum" : Str) then some .sum else if x == ("int" : Str) then some .intO else if x == ("max" : Str) then some .max else if x == ("min" : Str) then some .min else if x == ("str" : Str) then some .strO else none
noncomputable def tyIx (x : Str) : Option Nat :=
  if x == ("int" : Str) then some 0 else if x == ("bool" : Str) then some 1 else if x == ("str" : Str) then some 2 else if x == ("tuple" : Str) then some 3 else if x == ("list" : Str) then some 4 else none
/-- the built-ins that must be free in the module -/
noncomputable def bltAll : List Str := ["len", "tuple", "list", "sum", "int", "bool", "str", "isinstance", "range", "enumerate", "ValueError", "sorted", "max", "min", "set", "reversed", "zip"]

/-- a slot, a constant -/
noncomputable def pureB : Ex → Bool
  | .var _ => true
  | .con _ => true
  | _ => false
noncomputable def isNm : Expr → Bool
  | .Name _ _ => true
  | _ => false
noncomputable def isCt : Expr → Bool
  | .Name _ _ => true
  | .Constant _ _ _ => true
  | _ => false
noncomputable def ok2 (hot : Bool) (sc : Scope) (pb ts : Bool) (p : P) (fa fb : Expr → Bool) : Expr → Bool
  | .Call (.Name f _) [a, b] [] _ => (f == ("max" : Str) && p == .max || f == ("min" : Str) && p == .min) && !hot && gloB sc f && notStar a && notStar b && fa a && fb b
  | .Call (.Attribute o f apos) [b] [] cpos => (p == .idx && f == ("index" : Str) && isNm o && pb || p == .join && f == ("join" : Str) && isCt o && ts || p == .idxS && f == ("index" : Str) && isCt o && ts) && notStar b && apos.endLine == cpos.line && fa o && fb b
  | .BinOp a op b _ => binP op == some p && fa a && fb b
  | .Compare a [op] [b] _ => cmpP op == some p && !behindInMarks op b && fa a && fb b
  | .Subscript a b _ => p == .ix && notSlice b && fa a && fb b
  | _ => false
noncomputable def isNoneC : Expr → Bool
  | .Constant .none _ _ => true
  | _ => false
noncomputable def isRevS : Expr → Bool
  | .Slice none none (some (.UnaryOp .USub (.Constant (.int 1) _ _) _)) _ => true
  | _ => false
/-- set(e) -/
noncomputable def okSet (sc : Scope) (fa : Expr → Bool) : Expr → Bool
  | .Call (.Name g _) [b] [] _ => g == ("set" : Str) && gloB sc g && notStar b && fa b
  | _ => false
/-- range(e) -/
noncomputable def okRng (sc : Scope) (fa : Expr → Bool) : Expr → Bool
  | .Call (.Name g _) [b] [] _ => g == ("range" : Str) && gloB sc g && notStar b && fa b
  | _ => false
noncomputable def ok1 (hot : Bool) (sc : Scope) (p : P) (fa : Expr → Bool) : Expr → Bool
  | .UnaryOp .USub a _ => p == .neg && fa a
  | .Compare a [.Is] [b] _ => p == .isN && isNoneC b && fa a
  | .Compare a [.IsNot] [b] _ => p == .ntN && isNoneC b && fa a
  | .Subscript a s _ => p == .rev && isRevS s && fa a
  | .Call (.Name f _) [a] [] _ => (bltP f == some p && (!hot || !(p == .sum || p == .max || p == .min)) && gloB sc f && notStar a && fa a) || (f == ("sorted" : Str) && p == .srtS && !hot && gloB sc f && okSet sc fa a) || (f == ("list" : Str) && p == .lrng && !hot && gloB sc f && okRng sc fa a)
  | .Call (.Name f _) [a] [⟨some k, .Constant (.int i) _ _, _⟩] _ => f == ("max" : Str) && p == .max0 && k == ("default" : Str) && i == 0 && !hot && gloB sc f && notStar a && fa a
  | .Call (.Name f _) [a, .Name t _] [] _ => f == ("isinstance" : Str) && (match tyIx t with | some k => p == .isi k | none => false) && gloB sc f && gloB sc t && notStar a && fa a
  | _ => false
noncomputable def okKz : List (Str × Int) → List (Option Expr) → List Expr → Bool
  | [], [], [] => true
  | (k, i) :: r, some (.Constant (.str s) _ _) :: ks, .Constant (.int j) _ _ :: vs => s == k && j == i && okKz r ks vs
  | _, _, _ => false
noncomputable def okKy : List Str → List (Option Expr) → Bool
  | [], [] => true
  | k :: r, some (.Constant (.str s) _ _) :: ks => s == k && okKy r ks
  | _, _ => false
noncomputable def okCon (d : D) : Expr → Bool
  | .Constant c _ _ => (match c, d with
    | .none, .none => true
    | .bool a, .bool b => a == b
    | .int a, .int b => a == b
    | .str a, .str b => a == b && PyData.strOk b
    | _, _ => false)
  | _ => false
/-- names as targets -/
noncomputable def okNm (N : List Str) (st : Str → Bool) : List Nat → List Expr → Bool
  | [], [] => true
  | i :: is, .Name x _ :: es => nmB N i x && st x && okNm N st is es
  | _, _ => false
noncomputable def okTg (N : List Str) (st : Str → Bool) (tg : List Nat) (e : Expr) : Bool := match tg, e with
  | [i], .Name x _ => nmB N i x && st x
  | i :: j :: is, .Tuple es _ _ => okNm N st (i :: j :: is) es
  | _, _ => false
/-- may be stored: in a def; in a comprehension's block -/
noncomputable def stD (sc : Scope) (x : Str) : Bool := match sc.names.lookup x with
  | some .local => true
  | some .cell => true
  | _ => false
noncomputable def stB (scope sc : Scope) (x : Str) : Bool := match (relS scope sc).names.lookup x with
  | some .local => true
  | some .cell => (match scope.names.lookup x with | some .cell => true | _ => false)
  | _ => false
noncomputable def ownOf (N : List Str) (tg : List Nat) : List (Str × Nat) := tg.map fun i => (N.getD i ⟨#[]⟩, i)

/-- arguments that are slots, or lists of them -/
noncomputable def okAts (sc : Scope) (N : List Str) : List (Nat × Bool) → List Expr → Bool
  | [], es => (match es with | [] => true | _ => false)
  | (i, b) :: r, es => (match es with
    | .Name x _ :: es => !b && nmB N i x && visB sc x && notDbg x && okAts sc N r es
    | .Call (.Name f _) [.Name x _] [] _ :: es => b && f == ("list" : Str) && gloB sc f && nmB N i x && visB sc x && notDbg x && okAts sc N r es
    | _ => false)
mutual
noncomputable def okE (T : St0) (sc : Scope) (N : List Str) : Ex → Expr → Bool
  | .var i, e => (match e with
    | .Name x _ => nmB N i x && visB sc x && notDbg x
    | _ => false)
  | .con d, e => okCon d e
  | .glo x d, e => (match e with
    | .Name y _ => y == x && gloB sc x && notDbg x && T.cst.any fun p => p.1 == x && dEq p.2 d
    | _ => false)
  | .tup ms, e => (match e with
    | .Tuple es _ _ => decide (ms.len ≤ 1000) && okEs T sc N ms es
    | _ => false)
  | .lst ms, e => (match e with
    | .List es _ => decide (ms.len ≤ 1000) && okEs T sc N ms es
    | _ => false)
  | .pr p ms, e => okP T sc N ms p e
  | .and a r, e => (match e with
    | .BoolOp .And (e1 :: rest) pos => okE T sc N a e1 && (match rest with
      | [] => false
      | [e2] => okE T sc N r e2
      | e2 :: e3 :: more => okE T sc N r (.BoolOp .And (e2 :: e3 :: more) pos))
    | _ => false)
  | .or a r, e => (match e with
    | .BoolOp .Or (e1 :: rest) pos => okE T sc N a e1 && (match rest with
      | [] => false
      | [e2] => okE T sc N r e2
      | e2 :: e3 :: more => okE T sc N r (.BoolOp .Or (e2 :: e3 :: more) pos))
    | _ => false)
  | .not a, e => (match e with
    | .UnaryOp .Not e1 _ => okE T sc N a e1
    | _ => false)
  | .ite x a b, e => (match e with
    | .IfExp e1 e2 e3 _ => okE T sc N x e1 && okE T sc N a e2 && okE T sc N b e3
    | _ => false)
  | .chn ps a ms, e => (match e with
    | .Compare e1 (op :: op2 :: ops) (e2 :: e3 :: es) _ => okE T sc N a e1 && okC T sc N ms ps (op :: op2 :: ops) (e2 :: e3 :: es) && !lastMarks (op :: op2 :: ops) (e2 :: e3 :: es)
    | _ => false)
  | .slc m lo hi, e => (match e with
    | .Subscript e1 (.Slice l h none _) _ => okE T sc N m e1 && okO T sc N lo l && okO T sc N hi h
    | _ => false)
  | .call f ms, e => (match e with
    | .Call (.Name x _) (e1 :: es) [] _ => !T.hot && !T.isM f && T.name f == x && (T.tab f).isSome && gloB sc x && notDbg x && notStar e1 && es.all notStar && okEs T sc N ms (e1 :: es)
    | .Call (.Name x _) [] [] _ => !T.hot && !T.isM f && T.name f == x && (T.tab f).isSome && gloB sc x && notDbg x && (match ms with | .nil => true | _ => false)
    | _ => false)
  | .comp me tg ik ms mc, e => (match e with
    | .ListComp elt [⟨tge, it, ifs, 0⟩] scope _ => !T.hot && notSet it && blkC N sc scope (ownOf N tg) && okTg N (stB scope sc) tg tge && okI T sc N ms ik it tge && okTs { T with inn := true } (relS scope sc) N mc ifs && okE { T with inn := true } (relS scope sc) N me elt
    | _ => false)
  | .isx c i, e => (match e with
    | .Call (.Name f _) [.Name x _, .Name y _] [] _ => f == ("isinstance" : Str) && gloB sc f && nmB N i x && visB sc x && notDbg x && gloB sc y && notDbg y && ((T.exn ++ T.exp).any (fun p => p.1 == y && p.2 == c) || (c == .ValueError && y == ("ValueError" : Str)))
    | _ => false)
  | .fld i g, e => (match e with
    | .Attribute (.Name x _) f _ => f == g && nmB N i x && visB sc x && notDbg x
    | _ => false)
  | .inD x ks neg m, e => (match e with
    | .Compare e1 [op] [.Name y _] _ => y == x && gloB sc x && notDbg x && (match op, neg with | .In, false => true | .NotIn, true => true | _, _ => false) && T.dct.any (fun p => p.1 == x && p.2 == ks) && okE T sc N m e1
    | _ => false)
  | .getD x kvs m, e => (match e with
    | .Subscript (.Name y _) e2 _ => y == x && gloB sc x && notDbg x && notSlice e2 && T.dct.any (fun p => p.1 == x) && T.dcv.any (fun p => p.1 == x && kvs.all fun q => p.2.any fun r => r.1 == q.1 && dEq r.2 q.2) && okE T sc N m e2
    | _ => false)
  | .keysS x ss, e => (match e with
    | .Call (.Name f _) [.Name y _] [] _ => f == ("sorted" : Str) && gloB sc f && y == x && gloB sc x && notDbg x && !T.hot && T.dct.any (fun p => p.1 == x && decide p.2.Nodup && decide (p.2.length < 64) && p.2.isPerm ss && riseB ss && transB ss && ss.all PyData.strOk)
    | _ => false)
  | .compX me tg ik ms mc, e => (match e with
    | .ListComp elt [⟨tge, it, ifs, 0⟩] scope _ => !T.hot && !T.inn && notSet it && blkC N sc scope (ownOf N tg) && okTg N (stB scope sc) tg tge && okI T sc N ms ik it tge && okTs { T with inn := true } (relS scope sc) N mc ifs && okE { T with inn := true } (relS scope sc) N me elt
    | _ => false)
  | .fldO i g, e => (match e with
    | .Attribute (.Name x _) f _ => f == g && nmB N i x && visB sc x && notDbg x
    | _ => false)
  | .ixF i g j n, e => (match e with
    | .Subscript (.Attribute (.Name x _) f _) (.Subscript (.Name y _) (.Constant (.int k) _ _) _) _ => f == g && nmB N i x && visB sc x && notDbg x && nmB N j y && visB sc y && notDbg y && k == n
    | _ => false)
  | .mth i cn m f ms, e => (match e with
    | .Call (.Attribute (.Name x _) m' apos) es [] pos => !T.hot && m' == m && nmB N i x && visB sc x && notDbg x && (T.tab f).isSome && T.mts.any (fun p => p.1 == f && p.2.1 == cn && p.2.2 == m) && es.all notStar && decide (es.length < 29) && apos.endLine == pos.line && okEs T sc N ms es
    | _ => false)
  | .mthN i f ms, e => (match e with
    | .Call (.Name g _) (.Name x _ :: es) [] _ => !T.hot && nmB N i x && visB sc x && notDbg x && (T.tab f).isSome && T.ofn.any (fun p => p.1 == f && p.2 == g) && gloB sc g && notDbg g && es.all notStar && okEs T sc N ms es
    | _ => false)
  | .newm cn ini m f as, e => (match e with
    | .Call (.Attribute (.Call (.Name c' _) [] [] _) m' apos) es [] pos => !T.hot && c' == cn && m' == m && (T.tab f).isSome && T.mts.any (fun p => p.1 == f && p.2.1 == cn && p.2.2 == m) && T.ocl.any (fun p => p.1 == cn && p.2 == ini) && gloB sc cn && notDbg cn && cn != ("super" : Str) && okAts sc N as es && decide (es.length < 29) && apos.endLine == pos.line
    | _ => false)
  | .callK f kw ms, e => (match e with
    | .Call (.Name x _) [e1] [⟨some k, e2, _⟩] _ => k == kw && !T.hot && T.dfl.any (fun p => p.1 == f && p.2.1 == kw) && T.name f == x && (T.tab f).isSome && gloB sc x && notDbg x && okEs T sc N ms [e1, e2]
    | _ => false)
  | .callD f ms i, e => (match e with
    | .Call (.Name x _) (e1 :: es) [] _ => !T.hot && T.dfl.any (fun p => p.1 == f && p.2.2 == i) && T.name f == x && (T.tab f).isSome && gloB sc x && notDbg x && notStar e1 && es.all notStar && okEs T sc N ms (e1 :: es)
    | _ => false)
  | .ixL i m, e => (match e with
    | .Subscript (.Name x _) e2 _ => nmB N i x && visB sc x && notDbg x && notSlice e2 && okE T sc N m e2
    | _ => false)
  | .dget kvs m z, e => (match e with
    | .Call (.Attribute (.Dict keys vals _) f apos) [e1, .Constant (.int j) _ _] [] cpos => f == ("get" : Str) && j == z && okKz kvs keys vals && !keys.isEmpty && decide (keys.length ≤ 15) && decide (kvs.map (·.1)).Nodup && notStar e1 && apos.endLine == cpos.line && okE T sc N m e1
    | _ => false)
  | .mthL i f a b, e => (match e with
    | .Call (.Name g _) [e0, .Name x _, e2] [] _ => !T.hot && nmB N i x && visB sc x && notDbg x && (T.tab f).isSome && T.lfn.any (fun p => p.1 == f && p.2 == g) && gloB sc g && notDbg g && notStar e0 && notStar e2 && okE T sc N a e0 && okE T sc N b e2
    | _ => false)
noncomputable def okEs (T : St0) (sc : Scope) (N : List Str) : Exs → List Expr → Bool
  | .nil, es => (match es with | [] => true | _ => false)
  | .cons m ms, es => (match es with
    | e :: es => notStar e && okE T sc N m e && okEs T sc N ms es
    | [] => false)
noncomputable def okP (T : St0) (sc : Scope) (N : List Str) : Exs → P → Expr → Bool
  | .nil, _, _ => false
  | .cons ma r, p, e => okP2 T sc N r p (txtOf ma).isSome (okE T sc N ma) e
noncomputable def okP2 (T : St0) (sc : Scope) (N : List Str) : Exs → P → Bool → (Expr → Bool) → Expr → Bool
  | .nil, p, _, fa, e => ok1 T.hot sc p fa e
  | .cons mb r, p, ts, fa, e => (match r with | .nil => ok2 T.hot sc (pureB mb) ts p fa (okE T sc N mb) e | .cons _ _ => false)
noncomputable def okC (T : St0) (sc : Scope) (N : List Str) : Exs → List P → List CmpOp → List Expr → Bool
  | .nil, _, _, _ => false
  | .cons m ms, ps, ops, es => (match ps, ops, es with
    | p :: ps, op :: ops, e :: es => cmpP op == some p && okE T sc N m e && (match ps, ops, es, ms with
      | [], [], [], .nil => true
      | p2 :: ps, op2 :: ops, e2 :: es, .cons m2 ms => okC T sc N (.cons m2 ms) (p2 :: ps) (op2 :: ops) (e2 :: es)
      | _, _, _, _ => false)
    | _, _, _ => false)
noncomputable def okO (T : St0) (sc : Scope) (N : List Str) : Exs → Option Expr → Bool
  | .nil, o => o.isNone
  | .cons m r, o => (match r, o with
    | .nil, some e => okE T sc N m e
    | _, _ => false)
noncomputable def okI (T : St0) (sc : Scope) (N : List Str) : Exs → ItK → Expr → Expr → Bool
  | .nil, _, _, _ => false
  | .cons m r, ik, it, tge => okI2 T sc N r ik it tge (okE T sc N m)
noncomputable def okI2 (T : St0) (sc : Scope) (N : List Str) : Exs → ItK → Expr → Expr → (Expr → Bool) → Bool
  | .nil, ik, it, tge, fa => (match ik, it with
    | .seq, it => fa it
    | .rng, .Call (.Name f _) [e] [] _ => f == ("range" : Str) && gloB sc f && notStar e && fa e
    | .enu, .Call (.Name f _) [e] [] _ => f == ("enumerate" : Str) && gloB sc f && notStar e && (match tge with | .Tuple _ _ _ => true | _ => false) && fa e
    | .rev, .Call (.Name f _) [e] [] _ => f == ("reversed" : Str) && gloB sc f && notStar e && fa e
    | _, _ => false)
  | .cons m2 r, ik, it, tge, fa => okI3 T sc N r ik it tge fa (okE T sc N m2)
noncomputable def okI3 (T : St0) (sc : Scope) (N : List Str) : Exs → ItK → Expr → Expr → (Expr → Bool) → (Expr → Bool) → Bool
  | .nil, ik, it, tge, fa, fb => (match ik, it with
    | .rng, .Call (.Name f _) [e, e2] [] _ => f == ("range" : Str) && gloB sc f && notStar e && notStar e2 && fa e && fb e2
    | _, _ => false)
  | .cons m3 r, ik, it, tge, fa, fb => (match r, ik, it, tge with
    | .nil, .rng, .Call (.Name f _) [e, e2, e3] [] _, _ => f == ("range" : Str) && gloB sc f && notStar e && notStar e2 && notStar e3 && fa e && fb e2 && okE T sc N m3 e3
    | .nil, .zip, .Call (.Name f _) [e, e2, e3] [] _, .Tuple _ _ _ => f == ("zip" : Str) && gloB sc f && notStar e && notStar e2 && notStar e3 && fa e && fb e2 && okE T sc N m3 e3
    | _, _, _, _ => false)
noncomputable def okTs (T : St0) (sc : Scope) (N : List Str) : Exs → List Expr → Bool
  | .nil, es => (match es with | [] => true | _ => false)
  | .cons m r, es => (match r, es with
    | .nil, [e] => okE T sc N m e
    | _, _ => false)
end
end Rp

/-! Rp, part 12: what the checker of expressions shows. -/
namespace Rp
open PySem PySem.Spec PyProof.Rows L2

/-- where one stands, as the checker knows it -/
structure Good (C : C0) (X : Cx) (T : St0) (sc : Scope) (N : List Str) : Prop where
  K : X.K = C.K
  sc : X.env.scope = sc
  N : X.N = N
  nd : X.N.Nodup
  calm : T.hot = false → X.calm = true
  room : T.hot = false → Room (C.m + 4) X.A
  un : X.A.units + 200 < cLine
  pass : T.hot = false → ∀ σ, PassesAt (L2.CX X.prog X.w) X σ (WE C.W σ)
  tab : C.T.tab = T.tab
  name : C.T.name = T.name
  fns : ∀ f fn, T.tab f = some fn → T.isM f = false → CallOk X C.T C.m f fn
  kno : KnOk X.K C.T.oc
  mts : ∀ p ∈ T.mts, ∀ fn, T.tab p.1 = some fn → CallM X C.T C.m p.1 fn (Meth X.K (C.T.oc.at_ p.2.1) p.2.2)
  ofn : ∀ p ∈ T.ofn, ∀ fn, T.tab p.1 = some fn → CallM X C.T C.m p.1 fn (fun fa => X.mg p.2 = some (.ref fa) ∧ PySem.W.keepIn X.K (.ref fa) = true)
  ocl : ∀ p ∈ T.ocl, MkC X C.T p.1 p.2
  top : T.inn = false → T.hot = false → X.stack = X.env :: X.outer ∧ X.env.frame = some X.env.locals ∧ Takes X C.W
  blt : ∀ x ∈ bltAll, X.mg x = none
  cst : ∀ p ∈ T.cst, ∃ u v, X.mg p.1 = some u ∧ RelV v u ∧ ∀ H, Dq C.K H v p.2
  dct : ∀ p ∈ T.dct, ∃ a, DctOk X p.1 p.2 a
  dcv : ∀ p ∈ T.dcv, ∀ a, X.mg p.1 = some (.ref a) → ValsOk X C.K a p.2
  dcf : ∀ p ∈ T.dcf, ∀ a, X.mg p.1 = some (.ref a) → ∀ q ∈ p.2, ∃ fn fa, T.tab q.2 = some fn ∧ PySem.W.nsIn X.K a q.1 = some (some (.ref fa)) ∧ X.mg (C.T.name q.2) = some (.ref fa)
  hx : ∀ b c d, C.ex b c d → C.T.kn c ∧ HeldX X C.T b c d
  cold : T.hot = false → ∀ b c d, ¬ C.ex b c d
  knd : ∀ p ∈ T.exn ++ T.exp, C.T.kn p.2 ∧ ∃ Ca, C.T.cls p.2 = .ref Ca ∧ X.mg p.1 = some (.ref Ca)
  kit : ∀ c c' Ca, C.T.kn c → C.T.kn c' → C.T.cls c = .ref Ca → PySem.W.kitOne X.K (.ref Ca) (C.T.cls c') = some (subX c c')
  kitV : ∀ c Ca, C.T.kn c → C.T.cls c = .ref Ca → PySem.W.kitOne X.K (.ref Ca) (.type "ValueError") = some true
  fno : ∀ c Ca, C.T.kn c → C.T.cls c = .ref Ca → PySem.W.findIn X.K (.ref Ca) (xf c) = some none
  dfl : ∀ p ∈ T.dfl, ∀ fn, T.tab p.1 = some fn → CallDf X C.T C.m p.1 fn p.2.1 p.2.2
  lfn : ∀ p ∈ T.lfn, ∀ fn, T.tab p.1 = some fn → CallL X C.T C.m p.1 p.2 fn
theorem passF {X : Cx} {σ : L2.St} : PassesAt (L2.CX X.prog X.w) X σ (fun _ _ _ => False) := fun _ _ _ _ _ _ h => by
  obtain ⟨_, _, _, _, _, _, _, _, _, _, _, _, z⟩ := h
  exact z.elim
theorem CallOk.blk {X : Cx} {T : Pr} {n f : Nat} {fn : Fn} (h : CallOk X T n f fn) (s : Shared) (H : Hp) (scope : Scope) (env : Env) (fp : List Addr) : CallOk (X.blk s H scope env fp) T n f fn := ⟨h.ex⟩
theorem Good.blk {C : C0} {X : Cx} {T : St0} {sc : Scope} {N : List Str} (g : Good C X T sc N) (hC : ∀ b c d, ¬ C.ex b c d) (s : Shared) (H : Hp) (scope : Scope) (cl : List (Str × Addr)) (D : Addr) (fp : List Addr) :
    Good C.inn (X.blk s H scope (compEnvC scope cl D X.env) fp) { T with inn := true } (relS scope sc) N := by
  refine ⟨g.K, ?_, g.N, g.nd, g.calm, g.room, g.un, fun _ σ => passF, g.tab, g.name, fun f fn h hm => (g.fns f fn h hm).blk _ _ _ _ _, g.kno, fun p hp fn h => ⟨(g.mts p hp fn h).ex⟩, fun p hp fn h => ⟨(g.ofn p hp fn h).ex⟩, fun p hp => ⟨(g.ocl p hp).ex⟩, (fun z => by cases z), g.blt, g.cst, fun p hp => (let ⟨a, d⟩ := g.dct p hp; ⟨a, d.mg, d.ex⟩), g.dcv, g.dcf, fun b c d z => (hC b c d z).elim, g.cold, g.knd, g.kit, g.kitV, g.fno, fun p hp fn h => ⟨(g.dfl p hp fn h).ex⟩, fun p hp fn h => ⟨(g.lfn p hp fn h).ex⟩⟩
  rw [← g.sc]
  rfl
theorem Good.bkx {C : C0} {X : Cx} {T : St0} {sc : Scope} {N : List Str} (g : Good C X T sc N) (hC : ∀ b c d, ¬ C.ex b c d) (σ : L2.St) (s : Shared) (H : Hp) (scope : Scope) (cl : List (Str × Addr)) (D : Addr) (fp : List Addr) :
    Good (C.bk true σ) (blx X s H scope (compEnvC scope cl D X.env) fp fun cls d H => true = true ∧ C.W cls d σ H) { T with inn := true } (relS scope sc) N := by
  refine ⟨g.K, ?_, g.N, g.nd, g.calm, g.room, g.un, fun _ σ2 => pass_blx, g.tab, g.name, fun f fn h hm => ⟨(g.fns f fn h hm).ex⟩, g.kno, fun p hp fn h => ⟨(g.mts p hp fn h).ex⟩, fun p hp fn h => ⟨(g.ofn p hp fn h).ex⟩, fun p hp => ⟨(g.ocl p hp).ex⟩, (fun z => by cases z), g.blt, g.cst, fun p hp => (let ⟨a, d⟩ := g.dct p hp; ⟨a, d.mg, d.ex⟩), g.dcv, g.dcf, fun b c d z => (hC b c d z).elim, g.cold, g.knd, g.kit, g.kitV, g.fno, fun p hp fn h => ⟨(g.dfl p hp fn h).ex⟩, fun p hp fn h => ⟨(g.lfn p hp fn h).ex⟩⟩
  rw [← g.sc]
  rfl
section
variable {C : C0} {X : Cx} {T : St0} {sc : Scope} {N : List Str}
theorem nm_of {i : Nat} {x : Str} (g : Good C X T sc N) (h : nmB N i x = true) : X.N[i]? = some x := by
  rw [g.N]
  simpa [nmB] using h
theorem vis_of {x : Str} (g : Good C X T sc N) (h : visB sc x = true) : Vis X.env.scope x := by
  rw [g.sc]
  unfold visB at h
  unfold Vis
  split at h
  · rename_i e; exact .inl e
  · rename_i e; exact .inr (.inl e)
  · rename_i e; exact .inr (.inr e)
  · cases h
theorem gl_of {x : Str} (g : Good C X T sc N) (h : gloB sc x = true) : Gl X x := by
  have e : sc.names.lookup x = some .globalImplicit := by
    unfold gloB at h
    split at h
    · assumption
    · cases h
  rw [← g.sc] at e
  exact e
theorem dbg_of {x : Str} (h : notDbg x = true) : (x == ("__debug__" : Str)) = false ∧ (x == ("__classdict__" : Str)) = false ∧ x ≠ ("__name__" : Str) := by
  unfold notDbg at h
  simp only [Bool.and_eq_true, Bool.not_eq_true'] at h
  exact ⟨h.1.1, h.1.2, by simpa using h.2⟩
theorem blt_of {x : Str} (g : Good C X T sc N) (h : x ∈ bltAll) : X.mg x = none := g.blt x h
theorem units_of (g : Good C X T sc N) : X.A.units + 200 < cLine := g.un
theorem bin_of {op : Operator} {p : P} (g : Good C X T sc N) (h : binP op = some p) : OpR X (binaryOp op) (rD2 C p) := by
  cases op with
  | Add => cases h; exact opD_add g.K
  | Sub => cases h; exact opD_sub
  | Mult => cases h; exact opD_mul g.K
  | FloorDiv => cases h; exact opD_fdiv
  | Mod => cases h; exact opD_mod
  | Pow => cases h; exact opD_pow
  | _ => cases h
theorem cmp_of {op : CmpOp} {p : P} (g : Good C X T sc N) (h : cmpP op = some p) : OpR X (compareOp op) (rD2 C p) ∧ p.isB = true := by
  have u := units_of g
  cases op with
  | Eq => cases h; exact ⟨opD_eq g.K u, rfl⟩
  | NotEq => cases h; exact ⟨opD_ne g.K u, rfl⟩
  | Lt => cases h; exact ⟨opD_lt, rfl⟩
  | LtE => cases h; exact ⟨opD_le, rfl⟩
  | Gt => cases h; exact ⟨opD_gt, rfl⟩
  | GtE => cases h; exact ⟨opD_ge, rfl⟩
  | In => cases h; exact ⟨opD_inn g.K u, rfl⟩
  | NotIn => cases h; exact ⟨opD_nin g.K u, rfl⟩
  | Is => cases h; exact ⟨opD_isT, rfl⟩
  | IsNot => cases h; exact ⟨opD_ntT, rfl⟩
theorem plain_ix {b : Expr} (h : notSlice b = true) : PlainIx b := by
  cases b with
  | Slice _ _ _ _ => cases h
  | _ => intro _ _; rfl
theorem fold_of {it : Expr} {env : Env} (h : notSet it = true) : ∀ x, foldedSetIterable it env x = pure x := by
  intro x
  unfold foldedSetIterable
  cases it with
  | Set _ _ _ => cases h
  | _ => rfl
theorem pureB_ok {k : Call} {m : Ex} (h : pureB m = true) : ∀ c x c', peekR m c ((den k m).v c) ≠ Rs.ex x c' := by
  intro c x c'
  cases m with
  | var i =>
    simp only [peekR]
    split <;> exact fun z => nomatch z
  | con d => exact fun z => nomatch z
  | _ => cases h
theorem ok2_se {p : P} {ma mb : Ex} {fa fb : Expr → Bool} {e : Expr} (g : Good C X T sc N) (ha : ∀ e, fa e = true → SE C X ma e) (hb : ∀ e, fb e = true → SE C X mb e) (h : ok2 T.hot sc (pureB mb) (txtOf ma).isSome p fa fb e = true) : SE C X (.pr p (.cons ma (.cons mb .nil))) e := by
  unfold ok2 at h
  split at h
  · rename_i a b _
    simp only [Bool.and_eq_true, Bool.or_eq_true, beq_iff_eq, Bool.not_eq_true'] at h
    obtain ⟨⟨⟨⟨⟨⟨h1, h0⟩, h2⟩, h3⟩, h4⟩, h5⟩, h6⟩ := h
    have pa : PA X [a, b] (tPs C (.cons ma (.cons mb .nil))) := pa_P (star_of h3) (ha _ h5).p (pa_P (star_of h4) (hb _ h6).p pa_P0)
    rcases h1 with ⟨rfl, rfl⟩ | ⟨rfl, rfl⟩
    · exact se_callB g.K (crD_max (g.calm h0)) (gl_of g h2) (blt_of g (by decide +kernel)) (by decide +kernel) pa h3 (by simp [h4]) (by decide) (by decide)
    · exact se_callB g.K (crD_min (g.calm h0)) (gl_of g h2) (blt_of g (by decide +kernel)) (by decide +kernel) pa h3 (by simp [h4]) (by decide) (by decide)
  · rename_i o _ _ _ _
    simp only [Bool.and_eq_true, Bool.or_eq_true, beq_iff_eq] at h
    obtain ⟨⟨⟨⟨h, h3⟩, h4⟩, h5⟩, h6⟩ := h
    rcases h with (⟨⟨⟨rfl, rfl⟩, h1⟩, h2⟩ | ⟨⟨⟨rfl, rfl⟩, h1⟩, h2⟩) | ⟨⟨⟨rfl, rfl⟩, h1⟩, h2⟩
    · cases o with
      | Name x p1 => exact se_idx g.K (ha _ h5) (hb _ h6) (pureB_ok h2) h3 (by simpa using h4)
      | _ => cases h1
    · obtain ⟨z, hz⟩ := Option.isSome_iff_exists.1 h2
      cases o with
      | Name x p1 => exact se_join g.K hz (ha _ h5) (hb _ h6) h3 rfl (by simpa using h4)
      | Constant x j p1 => exact se_join g.K hz (ha _ h5) (hb _ h6) h3 rfl (by simpa using h4)
      | _ => cases h1
    · obtain ⟨z, hz⟩ := Option.isSome_iff_exists.1 h2
      cases o with
      | Name x p1 => exact se_idxS g.K hz (ha _ h5) (hb _ h6) h3 rfl (by simpa using h4)
      | Constant x j p1 => exact se_idxS g.K hz (ha _ h5) (hb _ h6) h3 rfl (by simpa using h4)
      | _ => cases h1
  · simp only [Bool.and_eq_true, beq_iff_eq] at h
    exact se_bin g.K (bin_of g h.1.1) (ha _ h.1.2) (hb _ h.2)
  · simp only [Bool.and_eq_true, beq_iff_eq, Bool.not_eq_true'] at h
    obtain ⟨⟨⟨h1, h2⟩, h3⟩, h4⟩ := h
    obtain ⟨o, b⟩ := cmp_of g h1
    exact se_cmp h2 o (fun ds w e => prim_bl b e) (ha _ h3) (hb _ h4)
  · simp only [Bool.and_eq_true, beq_iff_eq] at h
    obtain ⟨⟨⟨h1, h2⟩, h3⟩, h4⟩ := h
    subst h1
    exact se_ix g.K (ixD_ok g.K) (plain_ix h2) (ha _ h3) (hb _ h4)
  · cases h
theorem isNoneC_ok {e : Expr} (h : isNoneC e = true) : ∃ j p, e = .Constant .none j p := by
  unfold isNoneC at h
  split at h
  · exact ⟨_, _, rfl⟩
  · cases h
theorem isRevS_ok {e : Expr} (h : isRevS e = true) : ∃ j p1 p2 p3, e = .Slice none none (some (.UnaryOp .USub (.Constant (.int 1) j p1) p2)) p3 := by
  unfold isRevS at h
  split at h
  · exact ⟨_, _, _, _, rfl⟩
  · cases h
theorem tyIx_ok {x : Str} {k : Nat} (h : tyIx x = some k) : k < 5 ∧ x ∈ bltAll ∧ bootBuiltins x = some (.type (tyName k)) ∧ notDbg x = true := by
  unfold tyIx at h
  split at h
  · rename_i e; cases h; have e := beq_iff_eq.mp e
    subst e; exact ⟨by decide, by decide +kernel, by decide +kernel, by decide +kernel⟩
  split at h
  · rename_i e; cases h; have e := beq_iff_eq.mp e
    subst e; exact ⟨by decide, by decide +kernel, by decide +kernel, by decide +kernel⟩
  split at h
  · rename_i e; cases h; have e := beq_iff_eq.mp e
    subst e; exact ⟨by decide, by decide +kernel, by decide +kernel, by decide +kernel⟩
  split at h
  · rename_i e; cases h; have e := beq_iff_eq.mp e
    subst e; exact ⟨by decide, by decide +kernel, by decide +kernel, by decide +kernel⟩
  split at h
  · rename_i e; cases h; have e := beq_iff_eq.mp e
    subst e; exact ⟨by decide, by decide +kernel, by decide +kernel, by decide +kernel⟩
  cases h
theorem pe_ty {x : Str} {k : Nat} {p : Pos} (g : Good C X T sc N) (h : tyIx x = some k) (hg : gloB sc x = true) : PE X (.Name x p) (tC (.ty (tyName k))) := by
  obtain ⟨_, h2, h3, h4⟩ := tyIx_ok h
  obtain ⟨d1, d2, d3⟩ := dbg_of h4
  exact pe_bltn (gl_of g hg) (blt_of g h2) h3 rfl d3 d1
theorem blt_se {x : Str} {p : P} {ma : Ex} {e : Expr} {p1 pos : Pos} (g : Good C X T sc N) (hh : (!T.hot || !(p == .sum || p == .max || p == .min)) = true) (h : bltP x = some p) (hg : gloB sc x = true) (hs : notStar e = true) (ha : SE C X ma e) : SE C X (.pr p (.cons ma .nil)) (.Call (.Name x p1) [e] [] pos) := by
  have pa : PA X [e] (tPs C (.cons ma .nil)) := pa_P (star_of hs) ha.p pa_P0
  unfold bltP at h
  split at h
  · rename_i e; cases h; have e := beq_iff_eq.mp e
    subst e; exact se_callB g.K (crD_len g.K) (gl_of g hg) (blt_of g (by decide +kernel)) (by decide +kernel) pa hs rfl (by decide) (by decide)
  split at h
  · rename_i e; cases h; have e := beq_iff_eq.mp e
    subst e; exact se_callT g.K (crD_tupO g.K) (gl_of g hg) (blt_of g (by decide +kernel)) (by decide +kernel) pa hs rfl (by decide) (by decide)
  split at h
  · rename_i e; cases h; have e := beq_iff_eq.mp e
    subst e; exact se_callT g.K (crD_lstO g.K) (gl_of g hg) (blt_of g (by decide +kernel)) (by decide +kernel) pa hs rfl (by decide) (by decide)
  split at h
  · rename_i e; cases h; have e := beq_iff_eq.mp e
    subst e; exact se_callB g.K (crD_sum (g.calm (by cases e0 : T.hot with | false => rfl | true => rw [e0] at hh; simp at hh))) (gl_of g hg) (blt_of g (by decide +kernel)) (by decide +kernel) pa hs rfl (by decide) (by decide)
  split at h
  · rename_i e; cases h; have e := beq_iff_eq.mp e
    subst e; exact se_callT g.K crD_intO (gl_of g hg) (blt_of g (by decide +kernel)) (by decide +kernel) pa hs rfl (by decide) (by decide)
  split at h
  · rename_i e; cases h; have e := beq_iff_eq.mp e
    subst e; exact se_callB g.K (crD_max (g.calm (by cases e0 : T.hot with | false => rfl | true => rw [e0] at hh; simp at hh))) (gl_of g hg) (blt_of g (by decide +kernel)) (by decide +kernel) pa hs rfl (by decide) (by decide)
  split at h
  · rename_i e; cases h; have e := beq_iff_eq.mp e
    subst e; exact se_callB g.K (crD_min (g.calm (by cases e0 : T.hot with | false => rfl | true => rw [e0] at hh; simp at hh))) (gl_of g hg) (blt_of g (by decide +kernel)) (by decide +kernel) pa hs rfl (by decide) (by decide)
  split at h
  · rename_i e; cases h; have e := beq_iff_eq.mp e
    subst e; exact se_callT g.K crD_strO (gl_of g hg) (blt_of g (by decide +kernel)) (by decide +kernel) pa hs rfl (by decide) (by decide)
  cases h
theorem ok1_se {p : P} {ma : Ex} {fa : Expr → Bool} {e : Expr} (g : Good C X T sc N) (ha : ∀ e, fa e = true → SE C X ma e) (h : ok1 T.hot sc p fa e = true) : SE C X (.pr p (.cons ma .nil)) e := by
  unfold ok1 at h
  split at h
  · simp only [Bool.and_eq_true, beq_iff_eq] at h
    obtain ⟨rfl, h2⟩ := h
    exact se_neg g.K (ha _ h2)
  · simp only [Bool.and_eq_true, beq_iff_eq] at h
    obtain ⟨⟨rfl, h1⟩, h2⟩ := h
    obtain ⟨j, p, rfl⟩ := isNoneC_ok h1
    exact se_isN (ha _ h2)
  · simp only [Bool.and_eq_true, beq_iff_eq] at h
    obtain ⟨⟨rfl, h1⟩, h2⟩ := h
    obtain ⟨j, p, rfl⟩ := isNoneC_ok h1
    exact se_ntN (ha _ h2)
  · simp only [Bool.and_eq_true, beq_iff_eq] at h
    obtain ⟨⟨rfl, h1⟩, h2⟩ := h
    obtain ⟨j, p1, p2, p3, rfl⟩ := isRevS_ok h1
    exact se_rev g.K (ha _ h2)
  · simp only [Bool.and_eq_true, Bool.or_eq_true, beq_iff_eq] at h
    rcases h with (h | h) | h
    · obtain ⟨⟨⟨⟨h1, h0⟩, h2⟩, h3⟩, h4⟩ := h
      exact blt_se g (by simpa using h0) h1 h2 h3 (ha _ h4)
    · obtain ⟨⟨⟨⟨rfl, rfl⟩, h0⟩, h2⟩, h3⟩ := h
      unfold okSet at h3
      split at h3
      · simp only [Bool.and_eq_true, beq_iff_eq] at h3
        obtain ⟨⟨⟨rfl, h4⟩, h5⟩, h6⟩ := h3
        exact se_srtS g.K (g.calm (by simpa using h0)) (gl_of g h2) (blt_of g (by decide +kernel)) (gl_of g h4) (blt_of g (by decide +kernel)) h5 (ha _ h6)
      · cases h3
    · obtain ⟨⟨⟨⟨rfl, rfl⟩, h0⟩, h2⟩, h3⟩ := h
      unfold okRng at h3
      split at h3
      · simp only [Bool.and_eq_true, beq_iff_eq] at h3
        obtain ⟨⟨⟨rfl, h4⟩, h5⟩, h6⟩ := h3
        exact se_lrng g.K (g.calm (by simpa using h0)) (gl_of g h2) (blt_of g (by decide +kernel)) (gl_of g h4) (blt_of g (by decide +kernel)) h5 (ha _ h6)
      · cases h3
  · simp only [Bool.and_eq_true, beq_iff_eq, Bool.not_eq_true'] at h
    obtain ⟨⟨⟨⟨⟨⟨⟨rfl, rfl⟩, rfl⟩, rfl⟩, h0⟩, h2⟩, h3⟩, h4⟩ := h
    exact se_max0 g.K (g.calm h0) (gl_of g h2) (blt_of g (by decide +kernel)) h3 (ha _ h4)
  · simp only [Bool.and_eq_true, beq_iff_eq] at h
    obtain ⟨⟨⟨⟨⟨rfl, h1⟩, h2⟩, h3⟩, h4⟩, h5⟩ := h
    split at h1
    · rename_i k ek
      have h1 : p = .isi k := by simpa using h1
      subst h1
      exact se_isi g.K (tyIx_ok ek).1 (gl_of g h2) (blt_of g (by decide +kernel)) (ha _ h5) (pe_ty g ek h3) h4 rfl
    · cases h1
  · cases h
theorem okKz_pps {X : Cx} {pos : Pos} : ∀ (kvs : List (Str × Int)) (keys : List (Option Expr)) (vals : List Expr), okKz kvs keys vals = true → PPs X pos keys vals (trsK kvs) ∧ keys.all (·.isSome) = true ∧ keys.length = vals.length ∧ kvs.length = keys.length
  | [], keys, vals, h => by
    cases keys with
    | nil =>
      cases vals with
      | nil => exact ⟨pps_nil, rfl, rfl, rfl⟩
      | cons e es => simp [okKz] at h
    | cons o ks => simp [okKz] at h
  | (k, i) :: r, keys, vals, h => by
    cases keys with
    | nil => simp [okKz] at h
    | cons o ks =>
      cases vals with
      | nil => simp [okKz] at h
      | cons e es =>
        unfold okKz at h
        split at h
        · cases ‹_ :: _ = []›
        · rename_i e1 e2 e3
          cases e1; cases e2; cases e3
          simp only [Bool.and_eq_true, beq_iff_eq] at h
          obtain ⟨⟨rfl, rfl⟩, h⟩ := h
          obtain ⟨a, b, c, d⟩ := okKz_pps r _ _ h
          exact ⟨pps_cons pe_str pe_int a, by simpa using b, by simp [c], by simp [d]⟩
        · cases h
theorem okCon_se {d : D} {e : Expr} (g : Good C X T sc N) (h : okCon d e = true) : SE C X (.con d) e := by
  unfold okCon at h
  split at h
  · split at h
    · exact se_con g.K pe_non (fun _ => rfl) fun _ => .non
    · have h := beq_iff_eq.mp h; subst h; exact se_con g.K pe_bl (fun _ => rfl) fun _ => .bl _
    · have h := beq_iff_eq.mp h; subst h; exact se_con g.K pe_int (fun _ => rfl) fun _ => .int _
    · simp only [Bool.and_eq_true, beq_iff_eq] at h
      obtain ⟨rfl, h⟩ := h
      exact se_con g.K pe_str (fun _ => rfl) fun _ => .str _ h
    · cases h
  · cases h
/-- names that may be stored -/
theorem okNm_ok {st : Str → Bool} {X : Cx} (hN : X.N = N) (hp : ∀ i x p, X.N[i]? = some x → st x = true → PG X (.Name x p) (gName i)) : ∀ {is : List Nat} {es : List Expr}, okNm N st is es = true → NM X is es
  | [], [], _ => .nil
  | [], _ :: _, h => by simp [okNm] at h
  | i :: is, [], h => by simp [okNm] at h
  | i :: is, e :: es, h => by
    unfold okNm at h
    split at h
    · rename_i e1 _; cases e1
    · rename_i e1 e2
      cases e1; cases e2
      simp only [Bool.and_eq_true] at h
      exact .cons (hp _ _ _ (by rw [hN]; simpa [nmB] using h.1.1) h.1.2) (okNm_ok hN hp h.2)
    · cases h
theorem okTg_ok {st : Str → Bool} {X : Cx} (hN : X.N = N) (hp : ∀ i x p, X.N[i]? = some x → st x = true → PG X (.Name x p) (gName i)) {tg : List Nat} {e : Expr} (h : okTg N st tg e = true) : STg X tg e := by
  unfold okTg at h
  split at h
  · simp only [Bool.and_eq_true] at h
    exact .one (hp _ _ _ (by rw [hN]; simpa [nmB] using h.1) h.2)
  · exact .two (okNm_ok hN hp h)
  · cases h
theorem pg_bkx {W : XK} {s : Shared} {H : Hp} {scope : Scope} {cl : List (Str × Addr)} {D : Addr} {fp : List Addr} (g : Good C X T sc N) : ∀ i x p, (blx X s H scope (compEnvC scope cl D X.env) fp W).N[i]? = some x → stB scope sc x = true → PG (blx X s H scope (compEnvC scope cl D X.env) fp W) (.Name x p) (gName i) := by
  intro i x p hi hs
  have e : (compEnvC scope cl D X.env).scope = relS scope sc := by rw [← g.sc]; rfl
  unfold stB at hs
  split at hs
  · rename_i el
    rw [← e] at el
    exact pg_name g.nd hi (.inl el) (.inr el)
  · rename_i el
    rw [← e] at el
    split at hs
    · rename_i e2
      exact pg_name g.nd hi (.inr el) (.inl (by show (scope.names.lookup x == some .cell) = true; rw [e2]; rfl))
    · cases hs
  · cases hs
theorem okAts_ok (g : Good C X T sc N) : ∀ {as : List (Nat × Bool)} {es : List Expr}, okAts sc N as es = true → AtE X as es
  | [], es, h => by
    simp only [okAts] at h
    split at h
    · exact .nil
    · cases h
  | (i, b) :: r, es, h => by
    simp only [okAts] at h
    split at h
    · simp only [Bool.and_eq_true, Bool.not_eq_true'] at h
      obtain ⟨⟨⟨⟨h0, h1⟩, h2⟩, h3⟩, h4⟩ := h
      subst h0
      obtain ⟨d1, d2, _⟩ := dbg_of h3
      exact .var (pe_var (nm_of g h1) (vis_of g h2) d1 d2) (okAts_ok g h4)
    · simp only [Bool.and_eq_true, beq_iff_eq] at h
      obtain ⟨⟨⟨⟨⟨⟨h0, rfl⟩, hg⟩, h1⟩, h2⟩, h3⟩, h4⟩ := h
      subst h0
      obtain ⟨d1, d2, _⟩ := dbg_of h3
      exact .lst (pe_var (nm_of g h1) (vis_of g h2) d1 d2) (gl_of g hg) (blt_of g (by decide +kernel)) (okAts_ok g h4)
    · cases h
theorem pg_blk {s : Shared} {H : Hp} {scope : Scope} {cl : List (Str × Addr)} {D : Addr} {fp : List Addr} (g : Good C X T sc N) : ∀ i x p, (X.blk s H scope (compEnvC scope cl D X.env) fp).N[i]? = some x → stB scope sc x = true → PG (X.blk s H scope (compEnvC scope cl D X.env) fp) (.Name x p) (gName i) := by
  intro i x p hi hs
  have e : (compEnvC scope cl D X.env).scope = relS scope sc := by rw [← g.sc]; rfl
  unfold stB at hs
  split at hs
  · rename_i el
    rw [← e] at el
    exact pg_name g.nd hi (.inl el) (.inr el)
  · rename_i el
    rw [← e] at el
    split at hs
    · rename_i e2
      exact pg_name g.nd hi (.inr el) (.inl (by show (scope.names.lookup x == some .cell) = true; rw [e2]; rfl))
    · cases hs
  · cases hs
theorem own_map {N : List Str} : ∀ (tg : List Nat), (ownOf N tg).map (·.2) = tg
  | [] => rfl
  | i :: r => by
    show i :: (ownOf N r).map (·.2) = _
    rw [own_map r]
theorem okI2_pi {r : Exs} {ik : ItK} {it tge : Expr} {m : Ex} {fa : Expr → Bool} (g : Good C X T sc N) (ha : ∀ e, fa e = true → SE C X m e) (hr : ∀ m2 r2, r = .cons m2 r2 → ∀ e, okE T sc N m2 e = true → SE C X m2 e) (hr3 : ∀ m2 m3 r3, r = .cons m2 (.cons m3 r3) → ∀ e, okE T sc N m3 e = true → SE C X m3 e)
    (h : okI2 T sc N r ik it tge fa = true) : PI X tge it (tI C ik (.cons m r)) := by
  cases r with
  | nil =>
    simp only [okI2] at h
    split at h
    · exact pi_seq g.K (ha _ h)
    · simp only [Bool.and_eq_true, beq_iff_eq] at h
      obtain ⟨⟨⟨rfl, h1⟩, h2⟩, h3⟩ := h
      exact pi_rng1 (gl_of g h1) (blt_of g (by decide +kernel)) h2 (ha _ h3)
    · simp only [Bool.and_eq_true, beq_iff_eq] at h
      obtain ⟨⟨⟨⟨rfl, h1⟩, h2⟩, h4⟩, h3⟩ := h
      split at h4
      · exact pi_enu g.K (gl_of g h1) (blt_of g (by decide +kernel)) h2 (ha _ h3)
      · cases h4
    · simp only [Bool.and_eq_true, beq_iff_eq] at h
      obtain ⟨⟨⟨rfl, h1⟩, h2⟩, h3⟩ := h
      exact pi_rev g.K (gl_of g h1) (blt_of g (by decide +kernel)) h2 (ha _ h3)
    · cases h
  | cons m2 r2 =>
    simp only [okI2] at h
    cases r2 with
    | nil =>
      simp only [okI3] at h
      split at h
      · simp only [Bool.and_eq_true, beq_iff_eq] at h
        obtain ⟨⟨⟨⟨⟨rfl, h1⟩, h2⟩, h3⟩, h4⟩, h5⟩ := h
        exact pi_rng2 (gl_of g h1) (blt_of g (by decide +kernel)) h2 h3 (ha _ h4) (hr _ _ rfl _ h5)
      · cases h
    | cons m3 r3 =>
      simp only [okI3] at h
      split at h
      · simp only [Bool.and_eq_true, beq_iff_eq] at h
        obtain ⟨⟨⟨⟨⟨⟨⟨rfl, h1⟩, h2⟩, h3⟩, h4⟩, h5⟩, h6⟩, h7⟩ := h
        exact pi_rng3 (gl_of g h1) (blt_of g (by decide +kernel)) h2 h3 h4 (ha _ h5) (hr _ _ rfl _ h6) (hr3 _ _ _ rfl _ h7)
      · simp only [Bool.and_eq_true, beq_iff_eq] at h
        obtain ⟨⟨⟨⟨⟨⟨⟨rfl, h1⟩, h2⟩, h3⟩, h4⟩, h5⟩, h6⟩, h7⟩ := h
        exact Rp.pi_zip g.K (gl_of g h1) (blt_of g (by decide +kernel)) h2 h3 h4 (ha _ h5) (hr _ _ rfl _ h6) (hr3 _ _ _ rfl _ h7)
      · cases h
end

mutual
theorem sE : ∀ (m : Ex) (e : Expr) (T : St0) (sc : Scope) (N : List Str) (C : C0) (X : Cx), Good C X T sc N → okE T sc N m e = true → SE C X m e
  | .var i, e, T, sc, N, C, X, g, h => by
    simp only [okE] at h
    split at h
    · simp only [Bool.and_eq_true] at h
      obtain ⟨d1, d2, _⟩ := dbg_of h.2
      exact se_var g.K (pe_var (nm_of g h.1.1) (vis_of g h.1.2) d1 d2)
    · cases h
  | .con d, e, T, sc, N, C, X, g, h => by
    simp only [okE] at h
    exact okCon_se g h
  | .glo x d, e, T, sc, N, C, X, g, h => by
    simp only [okE] at h
    split at h
    · simp only [Bool.and_eq_true, beq_iff_eq, List.any_eq_true] at h
      obtain ⟨⟨⟨rfl, h1⟩, h2⟩, p, hp, e1, e2⟩ := h
      have e2 := dEq_ok e2
      obtain ⟨u, v, hm, rv, hd⟩ := g.cst p hp
      subst e1
      subst e2
      exact se_glo g.K (pe_glob (gl_of g h1) hm rv (dbg_of h2).1) (fun _ => rfl) hd
    · cases h
  | .tup ms, e, T, sc, N, C, X, g, h => by
    simp only [okE] at h
    split at h
    · simp only [Bool.and_eq_true, decide_eq_true_eq] at h
      exact se_tup g.K h.1 (sVs ms _ T sc N C X g h.2)
    · cases h
  | .lst ms, e, T, sc, N, C, X, g, h => by
    simp only [okE] at h
    split at h
    · simp only [Bool.and_eq_true, decide_eq_true_eq] at h
      exact se_lst g.K h.1 (sVs ms _ T sc N C X g h.2)
    · cases h
  | .pr p ms, e, T, sc, N, C, X, g, h => by
    simp only [okE] at h
    exact sP ms p e T sc N C X g h
  | .and a r, e, T, sc, N, C, X, g, h => by
    simp only [okE] at h
    split at h
    · rw [Bool.and_eq_true] at h
      obtain ⟨h1, h2⟩ := h
      have A := sE a _ T sc N C X g h1
      split at h2
      · cases h2
      · exact se_and2 A (sE r _ T sc N C X g h2)
      · exact se_and A (sE r _ T sc N C X g h2)
    · cases h
  | .or a r, e, T, sc, N, C, X, g, h => by
    simp only [okE] at h
    split at h
    · rw [Bool.and_eq_true] at h
      obtain ⟨h1, h2⟩ := h
      have A := sE a _ T sc N C X g h1
      split at h2
      · cases h2
      · exact se_or2 A (sE r _ T sc N C X g h2)
      · exact se_or A (sE r _ T sc N C X g h2)
    · cases h
  | .not a, e, T, sc, N, C, X, g, h => by
    simp only [okE] at h
    split at h
    · exact se_not g.K (sE a _ T sc N C X g h)
    · cases h
  | .ite x a b, e, T, sc, N, C, X, g, h => by
    simp only [okE] at h
    split at h
    · simp only [Bool.and_eq_true] at h
      exact se_ite (sE x _ T sc N C X g h.1.1) (sE a _ T sc N C X g h.1.2) (sE b _ T sc N C X g h.2)
    · cases h
  | .chn ps a ms, e, T, sc, N, C, X, g, h => by
    simp only [okE] at h
    split at h
    · simp only [Bool.and_eq_true, Bool.not_eq_true'] at h
      exact se_chn (sE a _ T sc N C X g h.1.1) (sC ms ps _ _ T sc N C X g h.1.2) h.2
    · cases h
  | .slc m lo hi, e, T, sc, N, C, X, g, h => by
    simp only [okE] at h
    split at h
    · simp only [Bool.and_eq_true] at h
      exact se_slc g.K (sE m _ T sc N C X g h.1.1) (sO lo _ T sc N C X g h.1.2) (sO hi _ T sc N C X g h.2)
    · cases h
  | .call f ms, e, T, sc, N, C, X, g, h => by
    simp only [okE] at h
    split at h
    · simp only [Bool.and_eq_true, beq_iff_eq, Bool.not_eq_true'] at h
      obtain ⟨⟨⟨⟨⟨⟨⟨⟨h0, hM⟩, h1⟩, h2⟩, h3⟩, h4⟩, h5⟩, h6⟩, h7⟩ := h
      obtain ⟨fn, hf⟩ := Option.isSome_iff_exists.mp h2
      exact se_call g.K (by rw [g.tab]; exact hf) (g.fns f fn hf hM) (by rw [g.name]; exact h1) (g.room h0) (gl_of g h3) (g.pass h0) (sVs ms _ T sc N C X g h7) h5 h6 (dbg_of h4).1
    · simp only [Bool.and_eq_true, beq_iff_eq, Bool.not_eq_true'] at h
      obtain ⟨⟨⟨⟨⟨⟨h0, hM⟩, h1⟩, h2⟩, h3⟩, h4⟩, h5⟩ := h
      obtain ⟨fn, hf⟩ := Option.isSome_iff_exists.mp h2
      cases ms with
      | nil => exact se_call0 g.K (by rw [g.tab]; exact hf) (g.fns f fn hf hM) (by rw [g.name]; exact h1) (g.room h0) (gl_of g h3) (g.pass h0) (dbg_of h4).1
      | cons _ _ => cases h5
    · cases h
  | .comp me tg ik ms mc, e, T, sc, N, C, X, g, h => by
    simp only [okE] at h
    split at h
    · simp only [Bool.and_eq_true, Bool.not_eq_true'] at h
      obtain ⟨⟨⟨⟨⟨⟨h0, h1⟩, h2⟩, h3⟩, h4⟩, h5⟩, h6⟩ := h
      refine se_comp (own := ownOf N tg) g.K (g.calm h0) g.nd ⟨own_map tg, ?_, sI ms ik _ _ T sc N C X g h4, fold_of h1, fun s H D cl fp => ⟨okTg_ok (X := X.blk s H _ (compEnvC _ cl D X.env) fp) g.N (pg_blk g) h3, ?_, sE me _ _ _ N C.inn _ (g.blk (g.cold h0) s H _ cl D fp) h6⟩⟩
      · rw [g.N, g.sc]; exact blkOk_by h2
      · exact sTs mc _ _ _ N C.inn _ (g.blk (g.cold h0) s H _ cl D fp) h5
    · cases h
  | .isx c i, e, T, sc, N, C, X, g, h => by
    simp only [okE] at h
    split at h
    · simp only [Bool.and_eq_true, beq_iff_eq] at h
      obtain ⟨⟨⟨⟨⟨⟨⟨rfl, h1⟩, h2⟩, h3⟩, h4⟩, h5⟩, h6⟩, h7⟩ := h
      obtain ⟨d1, d2, d3⟩ := dbg_of h4
      obtain ⟨f1, f2, f3⟩ := dbg_of h6
      have hv := fun p => pe_var (pos := p) (nm_of g h2) (vis_of g h3) d1 d2
      rw [Bool.or_eq_true] at h7
      rcases h7 with h7 | h7
      · simp only [List.any_eq_true, Bool.and_eq_true, beq_iff_eq] at h7
        obtain ⟨p, hp, e1, e2⟩ := h7
        obtain ⟨k1, Ca, k2, k3⟩ := g.knd p hp
        rw [e1] at k3
        rw [e2] at k1 k2
        exact se_isx g.K (fun b c d z => (g.hx b c d z).2) (gl_of g h1) (blt_of g (by decide +kernel)) (hv _) (pe_glob (v := .ref Ca) (gl_of g h5) k3 rfl f1) (cu := C.T.cls c) (fun u ru => by rw [k2]; exact ru) fun b c0 d Cb z ec => g.kit c0 c Cb (g.hx b c0 d z).1 k1 ec
      · simp only [Bool.and_eq_true, beq_iff_eq] at h7
        obtain ⟨rfl, rfl⟩ := h7
        exact se_isx g.K (fun b c d z => (g.hx b c d z).2) (gl_of g h1) (blt_of g (by decide +kernel)) (hv _) (pe_bltn (v := .ty "ValueError") (gl_of g h5) (blt_of g (by decide +kernel)) PyProof.Rows.Boot.«ValueError» rfl) (cu := .type "ValueError") (fun u ru => ru) fun b c0 d Cb z ec => by
          rw [g.kitV c0 Cb (g.hx b c0 d z).1 ec]; cases c0 <;> rfl
    · cases h
  | .fld i f, e, T, sc, N, C, X, g, h => by
    simp only [okE] at h
    split at h
    · simp only [Bool.and_eq_true, beq_iff_eq] at h
      obtain ⟨⟨⟨rfl, h2⟩, h3⟩, h4⟩ := h
      obtain ⟨d1, d2, d3⟩ := dbg_of h4
      exact se_fld g.K (fun b c d z => (g.hx b c d z).2) (pe_var (nm_of g h2) (vis_of g h3) d1 d2) fun b c d Ca z ec ef => by rw [← ef]; exact g.fno c Ca (g.hx b c d z).1 ec
    · cases h
  | .inD x ks neg m, e, T, sc, N, C, X, g, h => by
    simp only [okE] at h
    split at h
    · simp only [Bool.and_eq_true, beq_iff_eq, List.any_eq_true] at h
      obtain ⟨⟨⟨⟨⟨rfl, h1⟩, h2⟩, h3⟩, p, hp, e1, e2⟩, h4⟩ := h
      obtain ⟨a, D⟩ := g.dct p hp
      rw [e1, e2] at D
      have hm := sE m _ T sc N C X g h4
      split at h3
      · exact se_inD (neg := false) D (gl_of g h1) (dbg_of h2).1 hm
      · exact se_inD (neg := true) D (gl_of g h1) (dbg_of h2).1 hm
      · cases h3
    · cases h
  | .getD x kvs m, e, T, sc, N, C, X, g, h => by
    simp only [okE] at h
    split at h
    · simp only [Bool.and_eq_true, beq_iff_eq, List.any_eq_true, List.all_eq_true] at h
      obtain ⟨⟨⟨⟨⟨⟨rfl, h1⟩, h2⟩, h3⟩, p, hp, e1⟩, q, hq, e2, e3⟩, h4⟩ := h
      obtain ⟨a, D⟩ := g.dct p hp
      rw [e1] at D
      have V := g.dcv q hq a (by rw [e2]; exact D.mg)
      refine se_getD g.K D (fun z hz => ?_) (gl_of g h1) (dbg_of h2).1 (sE m _ T sc N C X g h4) (plain_ix h3)
      obtain ⟨r, hr, e4, e5⟩ := e3 z hz
      have e5 := dEq_ok e5
      obtain ⟨u, v, y1, y2, y3⟩ := V r hr
      exact ⟨u, v, by rw [← e4]; exact y1, y2, by rw [← e5]; exact y3⟩
    · cases h
  | .keysS x ss, e, T, sc, N, C, X, g, h => by
    simp only [okE] at h
    split at h
    · simp only [Bool.and_eq_true, beq_iff_eq, List.any_eq_true, List.all_eq_true, decide_eq_true_eq, Bool.not_eq_true', List.isPerm_iff] at h
      obtain ⟨⟨⟨⟨⟨⟨rfl, h1⟩, rfl⟩, h3⟩, h4⟩, h5⟩, p, hp, ⟨⟨⟨⟨⟨e1, e2⟩, e3⟩, e4⟩, e5⟩, e6⟩, e7⟩ := h
      obtain ⟨a, D⟩ := g.dct p hp
      rw [e1] at D
      exact se_keysS g.K D (gl_of g h3) (dbg_of h4).1 (gl_of g h1) (blt_of g (by decide +kernel)) (g.calm h5) e2 e3 e4 e5 e6 e7
    · cases h
  | .compX me tg ik ms mc, e, T, sc, N, C, X, g, h => by
    simp only [okE] at h
    split at h
    · simp only [Bool.and_eq_true, Bool.not_eq_true'] at h
      obtain ⟨⟨⟨⟨⟨⟨⟨h0, hin⟩, h1⟩, h2⟩, h3⟩, h4⟩, h5⟩, h6⟩ := h
      obtain ⟨t1, t2, t3⟩ := g.top hin h0
      refine se_compX (own := ownOf N tg) g.K t1 t2 t3 (g.calm h0) g.nd (own_map tg) ?_ (sI ms ik _ _ T sc N C X g h4) (fold_of h1) fun σ s H D cl fp => ⟨okTg_ok (X := blx X s H _ (compEnvC _ cl D X.env) fp _) g.N (pg_bkx g) h3, ?_, sE me _ _ _ N (C.bk true σ) _ (g.bkx (g.cold h0) σ s H _ cl D fp) h6⟩
      · rw [g.N, g.sc]; exact blkOk_by h2
      · exact sTs mc _ _ _ N (C.bk true σ) _ (g.bkx (g.cold h0) σ s H _ cl D fp) h5
    · cases h
  | .fldO i f, e, T, sc, N, C, X, g, h => by
    simp only [okE] at h
    split at h
    · simp only [Bool.and_eq_true, beq_iff_eq] at h
      obtain ⟨⟨⟨rfl, h2⟩, h3⟩, h4⟩ := h
      obtain ⟨d1, d2, d3⟩ := dbg_of h4
      exact se_fldO g.K g.kno (pe_var (nm_of g h2) (vis_of g h3) d1 d2)
    · cases h
  | .ixF i f j n, e, T, sc, N, C, X, g, h => by
    simp only [okE] at h
    split at h
    · simp only [Bool.and_eq_true, beq_iff_eq] at h
      obtain ⟨⟨⟨⟨⟨⟨⟨rfl, h2⟩, h3⟩, h4⟩, h5⟩, h6⟩, h7⟩, rfl⟩ := h
      obtain ⟨d1, d2, d3⟩ := dbg_of h4
      obtain ⟨f1, f2, f3⟩ := dbg_of h7
      exact pe_ixO g.K g.kno (pe_var (nm_of g h2) (vis_of g h3) d1 d2) (pe_var (nm_of g h5) (vis_of g h6) f1 f2)
    · cases h
  | .mth i cn m f ms, e, T, sc, N, C, X, g, h => by
    simp only [okE] at h
    split at h
    · simp only [Bool.and_eq_true, beq_iff_eq, Bool.not_eq_true', List.any_eq_true, decide_eq_true_eq] at h
      obtain ⟨⟨⟨⟨⟨⟨⟨⟨⟨⟨h0, rfl⟩, h1⟩, h2⟩, h3⟩, h4⟩, p, hp, ⟨e1, e2⟩, e3⟩, h6⟩, h7⟩, h8⟩, h9⟩ := h
      obtain ⟨fn, hf⟩ := Option.isSome_iff_exists.mp h4
      obtain ⟨d1, d2, d3⟩ := dbg_of h3
      have M := g.mts p hp fn (by rw [e1]; exact hf)
      rw [e1, e2, e3] at M
      refine se_mth g.K g.kno (by rw [g.tab]; exact hf) M (g.room h0) (g.pass h0) (pe_var (nm_of g h1) (vis_of g h2) d1 d2) (sVs ms _ T sc N C X g h9) ?_ h6 h7 (by simpa using h8)
      cases ms with
      | nil =>
        simp only [okEs] at h9
        split at h9
        · exact ⟨fun _ => rfl, fun _ => rfl⟩
        · cases h9
      | cons _ _ =>
        simp only [okEs] at h9
        split at h9
        · exact ⟨(fun z => by cases z), (fun z => by cases z)⟩
        · cases h9
    · cases h
  | .mthN i f ms, e, T, sc, N, C, X, g, h => by
    simp only [okE] at h
    split at h
    · simp only [Bool.and_eq_true, beq_iff_eq, Bool.not_eq_true', List.any_eq_true] at h
      obtain ⟨⟨⟨⟨⟨⟨⟨⟨⟨h0, h1⟩, h2⟩, h3⟩, h4⟩, p, hp, e1, e2⟩, h5⟩, h6⟩, h7⟩, h8⟩ := h
      obtain ⟨fn, hf⟩ := Option.isSome_iff_exists.mp h4
      obtain ⟨d1, d2, d3⟩ := dbg_of h3
      have M := g.ofn p hp fn (by rw [e1]; exact hf)
      rw [e1, e2] at M
      exact se_mthN g.K (by rw [g.tab]; exact hf) M (g.room h0) (gl_of g h5) (g.pass h0) (pe_var (nm_of g h1) (vis_of g h2) d1 d2) (sVs ms _ T sc N C X g h8) h7 (dbg_of h6).1
    · cases h
  | .newm cn ini m f as, e, T, sc, N, C, X, g, h => by
    simp only [okE] at h
    split at h
    · simp only [Bool.and_eq_true, beq_iff_eq, Bool.not_eq_true', List.any_eq_true, decide_eq_true_eq] at h
      obtain ⟨⟨⟨⟨⟨⟨⟨⟨⟨⟨⟨h0, rfl⟩, rfl⟩, h1⟩, p, hp, ⟨e1, e2⟩, e3⟩, q, hq, e4, e5⟩, h2⟩, h3⟩, h4⟩, h5⟩, h7⟩, h8⟩ := h
      obtain ⟨fn, hf⟩ := Option.isSome_iff_exists.mp h1
      have M := g.mts p hp fn (by rw [e1]; exact hf)
      rw [e1, e2, e3] at M
      have K' := g.ocl q hq
      rw [e4, e5] at K'
      exact se_newm g.K g.kno (by rw [g.tab]; exact hf) M K' (g.room h0) (g.pass h0) (gl_of g h2) (dbg_of h3).1 h4 (okAts_ok g h5) h7 (by simpa using h8)
    · cases h
  | .ixL i m, e, T, sc, N, C, X, g, h => by
    simp only [okE] at h
    split at h
    · simp only [Bool.and_eq_true] at h
      obtain ⟨⟨⟨⟨h1, h2⟩, h3⟩, h4⟩, h5⟩ := h
      obtain ⟨d1, d2, d3⟩ := dbg_of h3
      exact se_ixL g.K (pe_var (nm_of g h1) (vis_of g h2) d1 d2) (plain_ix h4) (sE m _ T sc N C X g h5)
    · cases h
  | .dget kvs m z, e, T, sc, N, C, X, g, h => by
    simp only [okE] at h
    split at h
    · simp only [Bool.and_eq_true, beq_iff_eq, decide_eq_true_eq, Bool.not_eq_true', List.isEmpty_eq_false_iff] at h
      obtain ⟨⟨⟨⟨⟨⟨⟨⟨rfl, rfl⟩, h1⟩, h2⟩, h3⟩, h4⟩, h5⟩, h6⟩, h7⟩ := h
      obtain ⟨a, b, c, d⟩ := okKz_pps _ _ _ h1
      exact se_dget g.K (by have := g.un; omega) a b c h2 h3 h4 (by omega) (sE m _ T sc N C X g h7) pe_int ⟨rfl, few_args2 h5 rfl, by simpa using h6, by rw [star_of h5]; rfl⟩
    · cases h
  | .mthL i f a b, e, T, sc, N, C, X, g, h => by
    simp only [okE] at h
    split at h
    · simp only [Bool.and_eq_true, beq_iff_eq, Bool.not_eq_true', List.any_eq_true] at h
      obtain ⟨⟨⟨⟨⟨⟨⟨⟨⟨⟨⟨h0, h1⟩, h2⟩, h3⟩, h4⟩, p, hp, e1, e2⟩, h5⟩, h6⟩, h7⟩, h8⟩, h9⟩, h10⟩ := h
      obtain ⟨fn, hf⟩ := Option.isSome_iff_exists.mp h4
      obtain ⟨d1, d2, d3⟩ := dbg_of h3
      have M := g.lfn p hp fn (by rw [e1]; exact hf)
      rw [e1, e2] at M
      exact se_mthL g.K (by rw [g.tab]; exact hf) M (g.room h0) (gl_of g h5) (g.pass h0) (pe_var (nm_of g h1) (vis_of g h2) d1 d2) (sE a _ T sc N C X g h9) (sE b _ T sc N C X g h10) h7 h8 (dbg_of h6).1
    · cases h
  | .callK f kw .nil, e, T, sc, N, C, X, g, h => by
    simp only [okE] at h
    split at h
    · simp [okEs] at h
    · cases h
  | .callK f kw (.cons m .nil), e, T, sc, N, C, X, g, h => by
    simp only [okE] at h
    split at h
    · simp [okEs] at h
    · cases h
  | .callK f kw (.cons m (.cons m2 .nil)), e, T, sc, N, C, X, g, h => by
    simp only [okE] at h
    split at h
    · simp only [okEs, Bool.and_eq_true, beq_iff_eq, Bool.not_eq_true', List.any_eq_true] at h
      obtain ⟨⟨⟨⟨⟨⟨⟨rfl, h0⟩, p, hp, e1, e2⟩, h1⟩, h2⟩, h3⟩, h4⟩, ⟨h5, h6⟩, ⟨h7, h8⟩, _⟩ := h
      obtain ⟨fn, hf⟩ := Option.isSome_iff_exists.mp h2
      have M := g.dfl p hp fn (by rw [e1]; exact hf)
      rw [e1, e2] at M
      exact se_callK g.K (by rw [g.tab]; exact hf) M (by rw [g.name]; exact h1) (g.room h0) (gl_of g h3) (g.pass h0) (sE m _ T sc N C X g h6) (sE m2 _ T sc N C X g h8) h5 (dbg_of h4).1
    · cases h
  | .callK f kw (.cons m (.cons m2 (.cons m3 r))), e, T, sc, N, C, X, g, h => by
    simp only [okE] at h
    split at h
    · simp [okEs] at h
    · cases h
  | .callD f ms i, e, T, sc, N, C, X, g, h => by
    simp only [okE] at h
    split at h
    · simp only [Bool.and_eq_true, beq_iff_eq, Bool.not_eq_true', List.any_eq_true] at h
      obtain ⟨⟨⟨⟨⟨⟨⟨⟨h0, p, hp, e1, e2⟩, h1⟩, h2⟩, h3⟩, h4⟩, h5⟩, h6⟩, h7⟩ := h
      obtain ⟨fn, hf⟩ := Option.isSome_iff_exists.mp h2
      have M := g.dfl p hp fn (by rw [e1]; exact hf)
      rw [e1, e2] at M
      exact se_callD g.K (by rw [g.tab]; exact hf) M (by rw [g.name]; exact h1) (g.room h0) (gl_of g h3) (g.pass h0) (sVs ms _ T sc N C X g h7) h5 h6 (dbg_of h4).1
    · cases h
theorem sVs : ∀ (ms : Exs) (es : List Expr) (T : St0) (sc : Scope) (N : List Str) (C : C0) (X : Cx), Good C X T sc N → okEs T sc N ms es = true → PA X es (tVs C ms)
  | .nil, es, T, sc, N, C, X, g, h => by
    simp only [okEs] at h
    split at h
    · exact pa_V0
    · cases h
  | .cons m ms, es, T, sc, N, C, X, g, h => by
    simp only [okEs] at h
    split at h
    · simp only [Bool.and_eq_true] at h
      exact pa_V (star_of h.1.1) (sE m _ T sc N C X g h.1.2).v (sVs ms _ T sc N C X g h.2)
    · cases h
theorem sP : ∀ (ms : Exs) (p : P) (e : Expr) (T : St0) (sc : Scope) (N : List Str) (C : C0) (X : Cx), Good C X T sc N → okP T sc N ms p e = true → SE C X (.pr p ms) e
  | .nil, p, e, T, sc, N, C, X, g, h => by simp [okP] at h
  | .cons ma .nil, p, e, T, sc, N, C, X, g, h => by
    simp only [okP, okP2] at h
    exact ok1_se g (fun e he => sE ma e T sc N C X g he) h
  | .cons ma (.cons mb .nil), p, e, T, sc, N, C, X, g, h => by
    simp only [okP, okP2] at h
    exact ok2_se g (fun e he => sE ma e T sc N C X g he) (fun e he => sE mb e T sc N C X g he) h
  | .cons ma (.cons mb (.cons _ _)), p, e, T, sc, N, C, X, g, h => by simp [okP, okP2] at h
theorem sC : ∀ (ms : Exs) (ps : List P) (ops : List CmpOp) (es : List Expr) (T : St0) (sc : Scope) (N : List Str) (C : C0) (X : Cx), Good C X T sc N → okC T sc N ms ps ops es = true → CH C X ps ops ms es
  | .nil, ps, ops, es, T, sc, N, C, X, g, h => by simp [okC] at h
  | .cons m .nil, ps, ops, es, T, sc, N, C, X, g, h => by
    rw [okC.eq_def] at h
    dsimp only at h
    split at h
    · simp only [Bool.and_eq_true, beq_iff_eq] at h
      obtain ⟨⟨h1, h2⟩, h3⟩ := h
      obtain ⟨o, b⟩ := cmp_of g h1
      split at h3
      · exact .one o b (sE m _ T sc N C X g h2)
      · rename_i z; cases z
      · cases h3
    · cases h
  | .cons m (.cons m2 ms), ps, ops, es, T, sc, N, C, X, g, h => by
    rw [okC.eq_def] at h
    dsimp only at h
    split at h
    · simp only [Bool.and_eq_true, beq_iff_eq] at h
      obtain ⟨⟨h1, h2⟩, h3⟩ := h
      obtain ⟨o, b⟩ := cmp_of g h1
      split at h3
      · rename_i z; cases z
      · rename_i z
        cases z
        exact .more o b (sE m _ T sc N C X g h2) (sC (.cons m2 ms) _ _ _ T sc N C X g h3)
      · cases h3
    · cases h
theorem sO : ∀ (ms : Exs) (o : Option Expr) (T : St0) (sc : Scope) (N : List Str) (C : C0) (X : Cx), Good C X T sc N → okO T sc N ms o = true → SO C X ms o
  | .nil, o, T, sc, N, C, X, g, h => by
    simp only [okO] at h
    cases o with
    | none => exact .none
    | some _ => cases h
  | .cons m r, o, T, sc, N, C, X, g, h => by
    simp only [okO] at h
    split at h
    · exact .some (sE m _ T sc N C X g h)
    · cases h
theorem sI : ∀ (ms : Exs) (ik : ItK) (it tge : Expr) (T : St0) (sc : Scope) (N : List Str) (C : C0) (X : Cx), Good C X T sc N → okI T sc N ms ik it tge = true → PI X tge it (tI C ik ms)
  | .nil, ik, it, tge, T, sc, N, C, X, g, h => by simp [okI] at h
  | .cons m .nil, ik, it, tge, T, sc, N, C, X, g, h => by
    simp only [okI] at h
    exact okI2_pi g (fun e he => sE m e T sc N C X g he) (fun _ _ z => by cases z) (fun _ _ _ z => by cases z) h
  | .cons m (.cons m2 .nil), ik, it, tge, T, sc, N, C, X, g, h => by
    simp only [okI] at h
    exact okI2_pi g (fun e he => sE m e T sc N C X g he) (fun m3 r3 z e he => by cases z; exact sE m2 e T sc N C X g he) (fun _ _ _ z => by cases z) h
  | .cons m (.cons m2 (.cons m3 r)), ik, it, tge, T, sc, N, C, X, g, h => by
    simp only [okI] at h
    exact okI2_pi g (fun e he => sE m e T sc N C X g he) (fun m4 r4 z e he => by cases z; exact sE m2 e T sc N C X g he) (fun m4 m5 r5 z e he => by cases z; exact sE m3 e T sc N C X g he) h
theorem sTs : ∀ (ms : Exs) (es : List Expr) (T : St0) (sc : Scope) (N : List Str) (C : C0) (X : Cx), Good C X T sc N → okTs T sc N ms es = true → PTs X es (tG C (denTs C.k ms) rT)
  | .nil, es, T, sc, N, C, X, g, h => by
    simp only [okTs] at h
    split at h
    · refine ⟨fun pins s σ H Q I ⟨G, ω, c, R, p⟩ => pts_nil.run pins s σ H Q I ?_⟩
      simp only [denTs] at p
      exact p ω H true (Stp.refl R.dom) R rfl
    · cases h
  | .cons m r, es, T, sc, N, C, X, g, h => by
    simp only [okTs] at h
    split at h
    · exact ⟨fun pins s σ H Q I ⟨G, ω, c, R, p⟩ => (pts_one (sE m _ T sc N C X g h).t).run pins s σ H Q I ⟨G, ω, c, R, by simp only [denTs] at p; exact p⟩⟩
    · cases h
end
theorem okKy_pps {T : St0} {sc : Scope} {N : List Str} {C : C0} {X : Cx} {pos : Pos} (g : Good C X T sc N) : ∀ (ks : List Str) (ms : Exs) (keys : List (Option Expr)) (vals : List Expr), okKy ks keys = true → okEs T sc N ms vals = true → keys.length = vals.length → PPs X pos keys vals (trsOf C ks ms) ∧ keys.all (·.isSome) = true ∧ ks.length = ms.len ∧ ks.length = keys.length
  | [], ms, keys, vals, h, h2, hl => by
    cases keys with
    | nil =>
      cases vals with
      | nil =>
        cases ms with
        | nil => exact ⟨pps_nil, rfl, rfl, rfl⟩
        | cons m ms => simp [okEs] at h2
      | cons _ _ => cases hl
    | cons o ks => simp [okKy] at h
  | k :: r, ms, keys, vals, h, h2, hl => by
    cases keys with
    | nil => simp [okKy] at h
    | cons o ks =>
      cases vals with
      | nil => cases hl
      | cons e es =>
        cases ms with
        | nil => simp [okEs] at h2
        | cons m ms =>
          unfold okKy at h
          split at h
          · cases ‹_ :: _ = []›
          · rename_i e1 e2
            cases e1; cases e2
            simp only [Bool.and_eq_true, beq_iff_eq] at h
            obtain ⟨rfl, h⟩ := h
            simp only [okEs, Bool.and_eq_true] at h2
            obtain ⟨a, b, c, d⟩ := okKy_pps g r ms _ es h h2.2 (by simpa using hl)
            exact ⟨pps_cons pe_str (sE m _ T sc N C X g h2.1.2).v a, by simpa using b, by simp [Exs.len, c], by simp [d]⟩
          · cases h
end Rp

/-! Rp, part 13: the checker of statements, and what it shows. -/
namespace Rp
open PySem PySem.Spec PyProof.Rows L2

/-- a class of errors of one's own -/
structure ExcOk (K : PySem.W.Frag) (mg : Str → Option Value) (x : Str) (cls : Value) : Prop where
  ex : ∃ (Ca : Addr) (bmB : List Value) (B newId initId : String), cls = .ref Ca ∧ ExcBaseFacts B newId initId bmB ∧ PySem.W.excIn K Ca bmB newId = true ∧ mg x = some (.ref Ca) ∧ PySem.W.keepIn K (.ref Ca) = true ∧
    PySem.W.subIn K cls (.type "BaseException") = some true ∧ PySem.W.typeIn K cls = some (.type "type")
/-- .. in a def's body -/
structure GoodS (C : C0) (X : Cx) (T : St0) (sc : Scope) (N : List Str) : Prop extends Good C X T sc N where
  own : PassesOwn (model X.prog X.w) X.A X.env X.xe
  fn : ∀ x, X.fn x = true
  tk : Takes X C.W
  stk : X.stack = X.env :: X.outer
  frm : X.env.frame = some X.env.locals
  kfn : X.env.scope.kind = .function
  exc : ∀ p ∈ T.exn, ExcOk X.K X.mg p.1 (C.T.cls p.2)
  pay : ∀ p ∈ T.exp, XPay X C.T p.1 p.2
  exm : ∀ c c', C.T.kn c → C.T.kn c' → PySem.W.exmOne X.K (C.T.cls c) (C.T.cls c') = some (subX c c')
  xcl : ∀ c, C.T.kn c → ∃ Ca, C.T.cls c = .ref Ca ∧ XCls X.K Ca

noncomputable def swB (sc : Scope) (t : Str) (pl vl : Nat) (scope : Scope) : Bool := (match sc.names.lookup t with | some .local => true | _ => false) && pl == vl && !(scope.names.any fun (n, k) => n == t && (k == .local || k == .cell))
theorem sw_of {elt : Expr} {gs : List Comprehension} {scope sc : Scope} {pos p : Pos} {t : Str} {l : Nat} {env : Env} (hs : env.scope = sc) (hk : sc.kind = .function) :
    swapsWith (.ListComp elt gs scope pos) (some (.Name t p)) l env = pure (swB sc t p.line pos.line scope) := by
  have hb : env.blockKind = .function := by unfold Env.blockKind; rw [hs, hk]; rfl
  have hkd : env.kindOf t = sc.names.lookup t := by rw [← hs]; rfl
  unfold swapsWith swB
  simp only [hb, hkd, Expr.pos]
  cases sc.names.lookup t with
  | none => rfl
  | some k => cases k <;> rfl

noncomputable def okAsg (sc : Scope) (x : Str) : Expr → Bool
  | .SetComp .. => false
  | .DictComp .. => false
  | _ => true
mutual
noncomputable def okS (T : St0) (sc : Scope) (N : List Str) : S → Stmt → Bool
  | .asg i m, st => (match st with
    | .Assign [.Name x p] e _ => nmB N i x && stD sc x && okAsg sc x e && okE T sc N m e && (match m with
      | .comp _ _ _ _ _ => true
      | _ => noComp e)
    | _ => false)
  | .unp is m, st => (match st with
    | .Assign [.Tuple es k p] e _ => !T.hot && okTg N (stD sc) is (.Tuple es k p) && noComp e && noTup e && okE T sc N m e
    | _ => false)
  | .aug i p m, st => (match st with
    | .AugAssign (.Name x _) op e _ => nmB N i x && stD sc x && okE T sc N m e && (match op, p with
      | .Add, .add => true
      | .Sub, .sub => true
      | _, _ => false)
    | _ => false)
  | .app i m, st => (match st with
    | .Expr (.Call (.Attribute (.Name x _) f apos) [e] [] cpos) _ => nmB N i x && visB sc x && notDbg x && f == ("append" : Str) && notStar e && apos.endLine == cpos.line && okE T sc N m e
    | _ => false)
  | .ext i m, st => (match st with
    | .Expr (.Call (.Attribute (.Name x _) f apos) [e] [] cpos) _ => nmB N i x && visB sc x && notDbg x && f == ("extend" : Str) && notStar e && apos.endLine == cpos.line && okE T sc N m e
    | _ => false)
  | .inz i k m, st => (match st with
    | .Expr (.Call (.Attribute (.Name x _) f apos) [e, e2] [] cpos) _ => nmB N i x && visB sc x && notDbg x && f == ("insert" : Str) && notStar e && notStar e2 && apos.endLine == cpos.line && okE T sc N k e && okE T sc N m e2
    | _ => false)
  | .six i k m, st => (match st with
    | .Assign [.Subscript (.Name x _) ek _] e _ => nmB N i x && visB sc x && notDbg x && noComp e && notSlice ek && okE T sc N k ek && okE T sc N m e
    | _ => false)
  | .asgL i m, st => (match st with
    | .Assign [.Name x p] e _ => nmB N i x && stD sc x && okE T sc N m e && noComp e
    | _ => false)
  | .sixL i k m, st => (match st with
    | .Assign [.Subscript (.Name x _) ek _] e _ => nmB N i x && visB sc x && notDbg x && noComp e && notSlice ek && okE T sc N k ek && okE T sc N m e
    | _ => false)
  | .ifs c a b, st => (match st with
    | .If e s1 s2 _ => okE T sc N c e && okSs T sc N a s1 && okSs T sc N b s2
    | _ => false)
  | .for tg ik ms b, st => (match st with
    | .For tge it body [] _ => !T.hot && notSet it && okTg N (stD sc) tg tge && okI T sc N ms ik it tge && okSs T sc N b body
    | _ => false)
  | .whl c b, st => (match st with
    | .While e body [] _ => okE T sc N c e && okSs T sc N b body
    | _ => false)
  | .ret m, st => (match st with
    | .Return (some e) _ => okE T sc N m e
    | _ => false)
  | .pass, st => (match st with
    | .Pass _ => true
    | _ => false)
  | .brk, st => (match st with
    | .Break _ => true
    | _ => false)
  | .exp m, st => (match st with
    | .Expr e _ => noComp e && okE T sc N m e
    | _ => false)
  | .raise c, st => (match st with
    | .Raise (some (.Call (.Name x _) [.Constant (.str _) _ _] [] _)) none _ => !T.hot && gloB sc x && notDbg x && T.exn.any fun p => p.1 == x && p.2 == c
    | _ => false)
  | .raiseP c m, st => (match st with
    | .Raise (some (.Call (.Name x _) [e] [] _)) none _ => !T.hot && gloB sc x && notDbg x && notStar e && T.exp.any (fun p => p.1 == x && p.2 == c) && okE T sc N m e
    | _ => false)
  | .try b hs, st => (match st with
    | .Try body (h0 :: hds) [] [] _ => !T.hot && okSs T sc N b body && okHs T sc N hs (h0 :: hds)
    | _ => false)
  | .sixF i g j n m, st => (match st with
    | .Assign [.Subscript (.Attribute (.Name x _) f _) (.Subscript (.Name y _) (.Constant (.int k) _ _) _) _] e _ => f == g && nmB N i x && visB sc x && notDbg x && nmB N j y && visB sc y && notDbg y && k == n && noComp e && okE T sc N m e
    | _ => false)
  | .augF i g n, st => (match st with
    | .AugAssign (.Attribute (.Name x _) f _) .Add (.Constant (.int k) _ _) _ => f == g && nmB N i x && visB sc x && notDbg x && k == n
    | _ => false)
  | .augxF i g j n a, st => (match st with
    | .AugAssign (.Subscript (.Attribute (.Name x _) f _) (.Subscript (.Name y _) (.Constant (.int k) _ _) _) _) .Add (.Constant (.int b) _ _) _ => f == g && nmB N i x && visB sc x && notDbg x && nmB N j y && visB sc y && notDbg y && k == n && b == a
    | _ => false)
  | .mk i cn ini ms, st => (match st with
    | .Assign [.Name y _] (.Call (.Name c' _) es [] _) _ => !T.hot && c' == cn && nmB N i y && stD sc y && T.ocl.any (fun p => p.1 == cn && p.2 == ini) && gloB sc cn && notDbg cn && (match ms with
      | .nil => es.isEmpty
      | .cons m r => (match r, es with
        | .nil, [e] => notStar e && okE T sc N m e
        | _, _ => false))
    | _ => false)
  | .bad, _ => true
noncomputable def okSs (T : St0) (sc : Scope) (N : List Str) : Ss → List Stmt → Bool
  | .nil, sts => (match sts with | [] => true | _ => false)
  | .cons m ms, sts => (match sts with
    | st :: sts => okS T sc N m st && okSs T sc N ms sts
    | [] => false)
  | .disp i x kfs m ms, sts => (match sts with
    | [.Assign [.Name y _] (.Subscript (.Name x' _) e _) _, .Return (some (.Call (.Name y' _) (e0 :: es) [] _)) _] => x' == x && y' == y && !T.hot && nmB N i y && stD sc y && visB sc y && notDbg y && gloB sc x && notDbg x && notSlice e && okE T sc N m e && notStar e0 && es.all notStar && okEs T sc N ms (e0 :: es) &&
        T.dct.any (fun p => p.1 == x) && T.dcf.any (fun p => p.1 == x && kfs.all fun q => !T.isM q.2 && p.2.any fun r => r.1 == q.1 && r.2 == q.2)
    | _ => false)
  | .dsel i j n k1 m1 k2 m2, sts => (match sts with
    | [.Assign [.Name x _] (.Dict ks1 vs1 _) p2, .Assign [.Name y _] (.Dict ks2 vs2 _) _, .Return (some (.IfExp (.Compare (.Name z _) [.In] [.Name x1 _] _) (.Subscript (.Name x2 _) (.Name z1 _) _) (.Subscript (.Name y1 _) (.Name z2 _) _) p0)) p3] =>
      i != j && n != i && n != j && nmB N i x && stD sc x && visB sc x && notDbg x && nmB N j y && stD sc y && visB sc y && notDbg y && nmB N n z && visB sc z && notDbg z && x1 == x && x2 == x && y1 == y && z1 == z && z2 == z
        && okKy k1 ks1 && okEs T sc N m1 vs1 && decide (ks1.length = vs1.length) && !ks1.isEmpty && decide (ks1.length ≤ 15) && decide k1.Nodup
        && okKy k2 ks2 && okEs T sc N m2 vs2 && decide (ks2.length = vs2.length) && !ks2.isEmpty && decide (ks2.length ≤ 15) && decide k2.Nodup
    | _ => false)
noncomputable def okHs (T : St0) (sc : Scope) (N : List Str) : Hs → List ExceptHandler → Bool
  | .nil, hds => (match hds with | [] => true | _ => false)
  | .cons c as mb r, hds => (match hds with
    | .ExceptHandler (some (.Name x _)) nm (b0 :: suite) _ :: hds => (T.exn ++ T.exp).any (fun p => p.1 == x && p.2 == c) && gloB sc x && notDbg x && okSs { T with hot := true } sc N mb (b0 :: suite) && okHs T sc N r hds && (match as, nm with
      | none, none => true
      | some i, some n => nmB N i n && (match sc.names.lookup n with | some .local => true | _ => false)
      | _, _ => false)
    | _ => false)
end
theorem CallOk.tr {X : Cx} {T : Pr} {n f : Nat} {fn : Fn} (h : CallOk X T n f fn) (pn : List (Addr × Obj)) (xe : Value → Shared → Prop) : CallOk (X.tr pn xe) T n f fn := ⟨h.ex⟩
theorem CallOk.su {X : Cx} {T : Pr} {n f : Nat} {fn : Fn} (h : CallOk X T n f fn) (a : Addr) (pn : List (Addr × Obj)) : CallOk (X.suite a pn) T n f fn := ⟨h.ex⟩
theorem GoodS.tr {C : C0} {X : Cx} {T : St0} {sc : Scope} {N : List Str} (g : GoodS C X T sc N) (hh : T.hot = false) {W : WX} {pn : List (Addr × Obj)} {xe : Value → Shared → Prop} (tk : Takes (X.tr pn xe) W) (po : PassesOwn (model X.prog X.w) X.A X.env xe) : GoodS { C with W := W } (X.tr pn xe) T sc N :=
  { K := g.K, sc := g.sc, N := g.N, nd := g.nd, calm := g.calm, room := g.room, un := g.un, pass := fun _ σ => passAt tk σ, tab := g.tab, name := g.name, fns := fun f fn h hm => (g.fns f fn h hm).tr _ _, kno := g.kno, mts := fun p hp fn h => ⟨(g.mts p hp fn h).ex⟩, ofn := fun p hp fn h => ⟨(g.ofn p hp fn h).ex⟩, ocl := fun p hp => ⟨(g.ocl p hp).ex⟩, top := fun _ _ => ⟨g.stk, g.frm, tk⟩, blt := g.blt, cst := g.cst, dct := fun p hp => (let ⟨a, d⟩ := g.dct p hp; ⟨a, d.mg, d.ex⟩), dcv := g.dcv, dcf := g.dcf,
    hx := fun b c d z => (g.cold hh b c d z).elim, cold := g.cold, knd := g.knd, kit := g.kit, kitV := g.kitV, fno := g.fno, dfl := fun p hp fn h => ⟨(g.dfl p hp fn h).ex⟩, lfn := fun p hp fn h => ⟨(g.lfn p hp fn h).ex⟩, own := po, fn := g.fn, tk := tk, stk := g.stk, frm := g.frm, kfn := g.kfn, exc := g.exc, pay := fun p hp => ⟨(g.pay p hp).ex⟩, exm := g.exm, xcl := g.xcl }
theorem GoodS.su {C : C0} {X : Cx} {T : St0} {sc : Scope} {N : List Str} (g : GoodS C X T sc N) {a : Addr} {oe : Obj} {cls : Value} {d : Option Addr} {pn : List (Addr × Obj)} (hz : Zc cls d oe) (hf : ∃ vs, oe.data = .fields vs) : GoodS (C.su a cls d) (X.suite a ((a, oe) :: pn)) { T with hot := true } sc N :=
  { K := g.K, sc := g.sc, N := g.N, nd := g.nd, calm := fun z => Bool.noConfusion z, room := fun z => Bool.noConfusion z, un := g.un, pass := fun z => Bool.noConfusion z, tab := g.tab, name := g.name, fns := fun f fn h hm => (g.fns f fn h hm).su _ _, kno := g.kno, mts := fun p hp fn h => ⟨(g.mts p hp fn h).ex⟩, ofn := fun p hp fn h => ⟨(g.ofn p hp fn h).ex⟩, ocl := fun p hp => ⟨(g.ocl p hp).ex⟩, top := fun _ z => Bool.noConfusion z, blt := g.blt, cst := g.cst, dct := fun p hp => (let ⟨a, d⟩ := g.dct p hp; ⟨a, d.mg, d.ex⟩), dcv := g.dcv, dcf := g.dcf,
    hx := fun b c d' ⟨z1, z2, z3, z4⟩ => ⟨z3, by
      obtain ⟨Ca, e, xc⟩ := g.xcl c z3
      subst z1 z4
      exact ⟨Ca, oe, e, List.mem_cons_self, by rw [← e, z2]; exact hz, hf, xc⟩⟩
    cold := fun z => Bool.noConfusion z, knd := g.knd, kit := g.kit, kitV := g.kitV, fno := g.fno, dfl := fun p hp fn h => ⟨(g.dfl p hp fn h).ex⟩, lfn := fun p hp fn h => ⟨(g.lfn p hp fn h).ex⟩, own := PassesOwn.never, fn := g.fn, tk := takes_none5, stk := g.stk, frm := g.frm, kfn := g.kfn, exc := g.exc, pay := fun p hp => ⟨(g.pay p hp).ex⟩, exm := g.exm, xcl := g.xcl }
theorem GoodS.st {C : C0} {X : Cx} {T : St0} {sc : Scope} {N : List Str} (g : GoodS C X T sc N) (hh : T.hot = false) {a : Addr} {oe : Obj} {pn : List (Addr × Obj)} : GoodS C.st (X.suite a ((a, oe) :: pn)) { T with hot := true } sc N :=
  { K := g.K, sc := g.sc, N := g.N, nd := g.nd, calm := fun z => Bool.noConfusion z, room := fun z => Bool.noConfusion z, un := g.un, pass := fun z => Bool.noConfusion z, tab := g.tab, name := g.name, fns := fun f fn h hm => (g.fns f fn h hm).su _ _, kno := g.kno, mts := fun p hp fn h => ⟨(g.mts p hp fn h).ex⟩, ofn := fun p hp fn h => ⟨(g.ofn p hp fn h).ex⟩, ocl := fun p hp => ⟨(g.ocl p hp).ex⟩, top := fun _ z => Bool.noConfusion z, blt := g.blt, cst := g.cst, dct := fun p hp => (let ⟨a, d⟩ := g.dct p hp; ⟨a, d.mg, d.ex⟩), dcv := g.dcv, dcf := g.dcf,
    hx := fun b c d z => (g.cold hh b c d z).elim
    cold := fun z => Bool.noConfusion z, knd := g.knd, kit := g.kit, kitV := g.kitV, fno := g.fno, dfl := fun p hp fn h => ⟨(g.dfl p hp fn h).ex⟩, lfn := fun p hp fn h => ⟨(g.lfn p hp fn h).ex⟩, own := PassesOwn.never, fn := g.fn, tk := takes_none5, stk := g.stk, frm := g.frm, kfn := g.kfn, exc := g.exc, pay := fun p hp => ⟨(g.pay p hp).ex⟩, exm := g.exm, xcl := g.xcl }

section
variable {C : C0} {X : Cx} {T : St0} {sc : Scope} {N : List Str}
theorem loc_of {x : Str} (g : GoodS C X T sc N) (h : stD sc x = true) : Loc X.env.scope x := by
  rw [g.sc]
  unfold stD at h
  unfold L2.Loc
  split at h
  · rename_i e; exact .inl e
  · rename_i e; exact .inr e
  · cases h
theorem pg_def (g : GoodS C X T sc N) : ∀ i x p, X.N[i]? = some x → stD sc x = true → PG X (.Name x p) (gName i) := fun i x p hi hs => pg_name g.nd hi (loc_of g hs) (.inl (g.fn x))
theorem pv_of {i : Nat} {x : Str} {p : Pos} (g : GoodS C X T sc N) (h1 : nmB N i x = true) (h2 : visB sc x = true) (h3 : notDbg x = true) : PE X (.Name x p) (tVar i) := by
  obtain ⟨d1, d2, _⟩ := dbg_of h3
  exact pe_var (nm_of g.toGood h1) (vis_of g.toGood h2) d1 d2
theorem no_sub {x : Str} {ek : Expr} {p1 p2 : Pos} {env : Env} (h : notSlice ek = true) : ∀ v, assign (.Subscript (.Name x p1) ek p2) env v = (do
      let ov ← holding [v] (eval (.Name x p1) env)
      let iv ← holding [v, ov] (eval ek env)
      standAt p2
      holding [v, ov, iv] (setItem ov iv v)
      release [v, ov, iv] []) := by
  intro v
  cases ek with
  | Slice _ _ _ _ => cases h
  | _ => rfl
theorem ok_comp {e : Expr} {me : Ex} {tg : List Nat} {ik : ItK} {ms mc : Exs} (h : okE T sc N (.comp me tg ik ms mc) e = true) : ∃ elt tge it ifs scope pos, e = .ListComp elt [⟨tge, it, ifs, 0⟩] scope pos := by
  simp only [okE] at h
  split at h
  · exact ⟨_, _, _, _, _, _, rfl⟩
  · cases h
theorem bk_of {me : Ex} {tg : List Nat} {ik : ItK} {ms mc : Exs} {elt tge it : Expr} {ifs : List Expr} {scope : Scope} {pos : Pos} (g : Good C X T sc N) (h : okE T sc N (.comp me tg ik ms mc) (.ListComp elt [⟨tge, it, ifs, 0⟩] scope pos) = true) : BK C X me tg ik ms mc elt tge it ifs scope (ownOf N tg) := by
  simp only [okE, Bool.and_eq_true, Bool.not_eq_true'] at h
  obtain ⟨⟨⟨⟨⟨⟨h0, h1⟩, h2⟩, h3⟩, h4⟩, h5⟩, h6⟩ := h
  refine ⟨own_map tg, ?_, sI ms ik _ _ T sc N C X g h4, fold_of h1, fun s H D cl fp => ⟨okTg_ok (X := X.blk s H _ (compEnvC _ cl D X.env) fp) g.N (pg_blk g) h3, ?_, sE me _ _ _ N C.inn _ (g.blk (g.cold h0) s H _ cl D fp) h6⟩⟩
  · rw [g.N, g.sc]; exact blkOk_by h2
  · exact sTs mc _ _ _ N C.inn _ (g.blk (g.cold h0) s H _ cl D fp) h5
theorem asg_comp {i : Nat} {x : Str} {p spos : Pos} {e : Expr} {me : Ex} {tg : List Nat} {ik : ItK} {ms mc : Exs} (g : GoodS C X T sc N) (h1 : nmB N i x = true) (h2 : stD sc x = true) (h : okE T sc N (.comp me tg ik ms mc) e = true) :
    PS X (.Assign [.Name x p] e spos) (tS C (exS C.k (.asg i (.comp me tg ik ms mc)))) := by
  obtain ⟨elt, tge, it, ifs, scope, pos, rfl⟩ := ok_comp h
  have sw := sw_of (elt := elt) (gs := [⟨tge, it, ifs, 0⟩]) (scope := scope) (pos := pos) (p := p) (t := x) (l := spos.line) g.sc (by rw [← g.sc]; exact g.kfn)
  cases eb : swB sc x p.line pos.line scope with
  | false =>
    rw [eb] at sw
    exact ps_asgN g.nd (nm_of g.toGood h1) (loc_of g h2) (.inl (g.fn x)) sw (sE _ _ T sc N C X g.toGood h)
  | true =>
    rw [eb] at sw
    have hl : sc.names.lookup x = some .local := by
      unfold swB at eb
      simp only [Bool.and_eq_true] at eb
      have eb := eb.1.1
      split at eb
      · assumption
      · cases eb
    have h0 : T.hot = false := by
      simp only [okE, Bool.and_eq_true, Bool.not_eq_true'] at h
      exact h.1.1.1.1.1.1
    exact ps_imp (ps_comp g.K (g.calm h0) g.nd (bk_of g.toGood h) (nm_of g.toGood h1) (by rw [g.sc]; exact hl) sw) fun _ _ _ q => asg_read q
end
mutual
theorem sS : ∀ (m : S) (st : Stmt) (T : St0) (sc : Scope) (N : List Str) (C : C0) (X : Cx), GoodS C X T sc N → okS T sc N m st = true → PS X st (tS C (exS C.k m))
  | .asg i m, st, T, sc, N, C, X, g, h => by
    simp only [okS] at h
    split at h
    · simp only [Bool.and_eq_true] at h
      obtain ⟨⟨⟨⟨h1, h2⟩, h3⟩, h4⟩, h5⟩ := h
      split at h5
      · exact asg_comp g h1 h2 h4
      · exact ps_asgN g.nd (nm_of g.toGood h1) (loc_of g h2) (.inl (g.fn _)) (no_swap h5) (sE m _ T sc N C X g.toGood h4)
    · cases h
  | .unp is m, st, T, sc, N, C, X, g, h => by
    simp only [okS] at h
    split at h
    · simp only [Bool.and_eq_true] at h
      obtain ⟨⟨⟨⟨h0, h1⟩, h2⟩, h3⟩, h4⟩ := h
      exact ps_unp g.K (g.calm (by simpa using h0)) (okTg_ok g.N (pg_def g) h1) h2 h3 (sE m _ T sc N C X g.toGood h4)
    · cases h
  | .aug i p m, st, T, sc, N, C, X, g, h => by
    simp only [okS] at h
    split at h
    · simp only [Bool.and_eq_true] at h
      obtain ⟨⟨⟨h1, h2⟩, h3⟩, h4⟩ := h
      split at h4
      · exact ps_augN g.nd (nm_of g.toGood h1) (loc_of g h2) (.inl (g.fn _)) true (sE m _ T sc N C X g.toGood h3)
      · exact ps_augN g.nd (nm_of g.toGood h1) (loc_of g h2) (.inl (g.fn _)) false (sE m _ T sc N C X g.toGood h3)
      · cases h4
    · cases h
  | .app i m, st, T, sc, N, C, X, g, h => by
    simp only [okS] at h
    split at h
    · simp only [Bool.and_eq_true, beq_iff_eq] at h
      obtain ⟨⟨⟨⟨⟨⟨h1, h2⟩, h3⟩, rfl⟩, h5⟩, h6⟩, h7⟩ := h
      exact ps_app g.K (pv_of g h1 h2 h3) h5 (by simpa using h6) (sE m _ T sc N C X g.toGood h7)
    · cases h
  | .ext i m, st, T, sc, N, C, X, g, h => by
    simp only [okS] at h
    split at h
    · simp only [Bool.and_eq_true, beq_iff_eq] at h
      obtain ⟨⟨⟨⟨⟨⟨h1, h2⟩, h3⟩, rfl⟩, h5⟩, h6⟩, h7⟩ := h
      exact ps_ext g.K (pv_of g h1 h2 h3) h5 (by simpa using h6) (sE m _ T sc N C X g.toGood h7)
    · cases h
  | .inz i k m, st, T, sc, N, C, X, g, h => by
    simp only [okS] at h
    split at h
    · simp only [Bool.and_eq_true, beq_iff_eq] at h
      obtain ⟨⟨⟨⟨⟨⟨⟨⟨h1, h2⟩, h3⟩, rfl⟩, h5⟩, h5b⟩, h6⟩, h7⟩, h8⟩ := h
      exact ps_inz g.K (pv_of g h1 h2 h3) h5 h5b (by simpa using h6) (sE k _ T sc N C X g.toGood h7) (sE m _ T sc N C X g.toGood h8)
    · cases h
  | .six i k m, st, T, sc, N, C, X, g, h => by
    simp only [okS] at h
    split at h
    · simp only [Bool.and_eq_true] at h
      obtain ⟨⟨⟨⟨⟨⟨h1, h2⟩, h3⟩, h4⟩, h5⟩, h6⟩, h7⟩ := h
      exact ps_six (pv_of g h1 h2 h3) h4 (no_sub h5) (sE k _ T sc N C X g.toGood h6) (sE m _ T sc N C X g.toGood h7)
    · cases h
  | .asgL i m, st, T, sc, N, C, X, g, h => by
    simp only [okS] at h
    split at h
    · simp only [Bool.and_eq_true] at h
      obtain ⟨⟨⟨h1, h2⟩, h4⟩, h5⟩ := h
      exact ps_asgL g.nd (nm_of g.toGood h1) (loc_of g h2) (.inl (g.fn _)) (no_swap h5) (sE m _ T sc N C X g.toGood h4)
    · cases h
  | .sixL i k m, st, T, sc, N, C, X, g, h => by
    simp only [okS] at h
    split at h
    · simp only [Bool.and_eq_true] at h
      obtain ⟨⟨⟨⟨⟨⟨h1, h2⟩, h3⟩, h4⟩, h5⟩, h6⟩, h7⟩ := h
      exact ps_sixL (pv_of g h1 h2 h3) h4 (no_sub h5) (sE k _ T sc N C X g.toGood h6) (sE m _ T sc N C X g.toGood h7)
    · cases h
  | .ifs c a b, st, T, sc, N, C, X, g, h => by
    simp only [okS] at h
    split at h
    · simp only [Bool.and_eq_true] at h
      exact ps_ifS (sE c _ T sc N C X g.toGood h.1.1) (sSs a _ T sc N C X g h.1.2) (sSs b _ T sc N C X g h.2)
    · cases h
  | .for tg ik ms b, st, T, sc, N, C, X, g, h => by
    simp only [okS] at h
    split at h
    · simp only [Bool.and_eq_true] at h
      obtain ⟨⟨⟨⟨h0, h1⟩, h2⟩, h3⟩, h4⟩ := h
      exact ps_forS g.K g.own (g.calm (by simpa using h0)) (sI ms ik _ _ T sc N C X g.toGood h3) (okTg_ok g.N (pg_def g) h2) (sSs b _ T sc N C X g h4) (fold_of h1)
    · cases h
  | .whl c b, st, T, sc, N, C, X, g, h => by
    simp only [okS] at h
    split at h
    · simp only [Bool.and_eq_true] at h
      exact ps_whlS g.own (sE c _ T sc N C X g.toGood h.1) (sSs b _ T sc N C X g h.2)
    · cases h
  | .ret m, st, T, sc, N, C, X, g, h => by
    simp only [okS] at h
    split at h
    · refine ps_retS (fun i e => ?_) (sE m _ T sc N C X g.toGood h)
      subst e
      simp only [okE] at h
      split at h
      · simp only [Bool.and_eq_true] at h
        exact pv_of g h.1.1 h.1.2 h.2
      · cases h
    · cases h
  | .pass, st, T, sc, N, C, X, g, h => by
    simp only [okS] at h
    split at h
    · exact ps_passS
    · cases h
  | .brk, st, T, sc, N, C, X, g, h => by
    simp only [okS] at h
    split at h
    · exact ps_brk
    · cases h
  | .exp m, st, T, sc, N, C, X, g, h => by
    simp only [okS] at h
    split at h
    · simp only [Bool.and_eq_true] at h
      exact ps_exp h.1 (sE m _ T sc N C X g.toGood h.2)
    · cases h
  | .raise c, st, T, sc, N, C, X, g, h => by
    simp only [okS] at h
    split at h
    · simp only [Bool.and_eq_true, beq_iff_eq, List.any_eq_true] at h
      obtain ⟨⟨⟨h0, h1⟩, h2⟩, p, hp, e1, e2⟩ := h
      have kn := (g.knd p (List.mem_append_left _ hp)).1
      rw [e2] at kn
      obtain ⟨Ca, bmB, B, ni, ii, ec, F, q, gC, kC, r1, r2⟩ := (g.exc p hp).ex
      rw [e1] at gC
      rw [e2] at ec r1 r2
      refine ps_raiseS kn (g.calm (by simpa using h0)) g.tk ?_
      rw [ec] at r1 r2 ⊢
      exact pmk_own F q gC kC (raises_own r1 r2) (gl_of g.toGood h1) (dbg_of h2).1
    · cases h
  | .raiseP c m, st, T, sc, N, C, X, g, h => by
    simp only [okS] at h
    split at h
    · simp only [Bool.and_eq_true, beq_iff_eq, List.any_eq_true, Bool.not_eq_true'] at h
      obtain ⟨⟨⟨⟨⟨h0, h1⟩, h2⟩, h3⟩, p, hp, e1, e2⟩, h4⟩ := h
      have kn := (g.knd p (List.mem_append_right _ hp)).1
      have xp := g.pay p hp
      rw [e2] at kn xp
      rw [e1] at xp
      exact ps_raisePS kn g.K (g.calm h0) g.tk xp ((g.room h0).mono (by omega)) (gl_of g.toGood h1) (dbg_of h2).1 h3 (sE m _ T sc N C X g.toGood h4)
    · cases h
  | .try b hs, st, T, sc, N, C, X, g, h => by
    simp only [okS] at h
    split at h
    · simp only [Bool.and_eq_true, Bool.not_eq_true'] at h
      obtain ⟨⟨h0, h1⟩, h2⟩ := h
      exact ps_tryS (g.cold h0) g.exm g.stk g.frm g.nd g.tk (fun W pn xe tk po => sSs b _ T sc N { C with W := W } (X.tr pn xe) (g.tr h0 tk po) h1) (sHs hs _ T sc N C X g h0 h2)
    · cases h
  | .sixF i f j n m, st, T, sc, N, C, X, g, h => by
    simp only [okS] at h
    split at h
    · simp only [Bool.and_eq_true, beq_iff_eq] at h
      obtain ⟨⟨⟨⟨⟨⟨⟨⟨⟨rfl, h2⟩, h3⟩, h4⟩, h5⟩, h6⟩, h7⟩, rfl⟩, h8⟩, h9⟩ := h
      exact ps_sixO g.K g.kno (pv_of g h2 h3 h4) (pv_of g h5 h6 h7) h8 (sE m _ T sc N C X g.toGood h9)
    · cases h
  | .augF i f n, st, T, sc, N, C, X, g, h => by
    simp only [okS] at h
    split at h
    · simp only [Bool.and_eq_true, beq_iff_eq] at h
      obtain ⟨⟨⟨⟨rfl, h2⟩, h3⟩, h4⟩, rfl⟩ := h
      exact ps_augO g.K g.kno (pv_of g h2 h3 h4)
    · cases h
  | .augxF i f j n a, st, T, sc, N, C, X, g, h => by
    simp only [okS] at h
    split at h
    · simp only [Bool.and_eq_true, beq_iff_eq] at h
      obtain ⟨⟨⟨⟨⟨⟨⟨⟨rfl, h2⟩, h3⟩, h4⟩, h5⟩, h6⟩, h7⟩, rfl⟩, rfl⟩ := h
      exact ps_augxO g.K g.kno (pv_of g h2 h3 h4) (pv_of g h5 h6 h7)
    · cases h
  | .mk i cn ini ms, st, T, sc, N, C, X, g, h => by
    simp only [okS] at h
    split at h
    · simp only [Bool.and_eq_true, beq_iff_eq, Bool.not_eq_true', List.any_eq_true] at h
      obtain ⟨⟨⟨⟨⟨⟨⟨h0, rfl⟩, h1⟩, h2⟩, p, hp, e1, e2⟩, h3⟩, h4⟩, h5⟩ := h
      have M := g.ocl p hp
      rw [e1, e2] at M
      refine ps_mk g.K g.kno M ((g.room h0).mono (by omega)) (gl_of g.toGood h3) (dbg_of h4).1 g.nd (nm_of g.toGood h1) (loc_of g h2) (.inl (g.fn _)) ?_
      cases ms with
      | nil => exact .inl ⟨by simpa using h5, rfl⟩
      | cons m r =>
        cases r with
        | cons _ _ => cases h5
        | nil =>
          dsimp only at h5
          split at h5
          · simp only [Bool.and_eq_true] at h5
            exact .inr ⟨_, m, rfl, rfl, sE m _ T sc N C X g.toGood h5.2, h5.1⟩
          · cases h5
    · cases h
  | .bad, st, T, sc, N, C, X, g, h => ⟨fun pins s σ H D I ⟨G, ω, c, R, p⟩ => by simp only [exS] at p; exact p.elim⟩
theorem sSs : ∀ (ms : Ss) (sts : List Stmt) (T : St0) (sc : Scope) (N : List Str) (C : C0) (X : Cx), GoodS C X T sc N → okSs T sc N ms sts = true → PSs X sts (tS C (exSs C.k ms))
  | .nil, sts, T, sc, N, C, X, g, h => by
    simp only [okSs] at h
    split at h
    · exact pss_nilS
    · cases h
  | .cons m ms, sts, T, sc, N, C, X, g, h => by
    simp only [okSs] at h
    split at h
    · simp only [Bool.and_eq_true] at h
      exact pss_consS (sS m _ T sc N C X g h.1) (sSs ms _ T sc N C X g h.2)
    · cases h
  | .dsel i j n k1 m1 k2 m2, sts, T, sc, N, C, X, g, h => by
    simp only [okSs] at h
    split at h
    · simp only [Bool.and_eq_true, beq_iff_eq, bne_iff_ne, ne_eq, decide_eq_true_eq, Bool.not_eq_true', List.isEmpty_eq_false_iff] at h
      obtain ⟨⟨⟨⟨⟨⟨⟨⟨⟨⟨⟨⟨⟨⟨⟨⟨⟨⟨⟨⟨⟨⟨⟨⟨⟨⟨⟨⟨⟨⟨hij, hni⟩, hnj⟩, a1⟩, a2⟩, a3⟩, a4⟩, b1⟩, b2⟩, b3⟩, b4⟩, c1⟩, c2⟩, c3⟩, rfl⟩, rfl⟩, rfl⟩, rfl⟩, rfl⟩, k1⟩, k2⟩, k3⟩, k4⟩, k5⟩, k6⟩, l1⟩, l2⟩, l3⟩, l4⟩, l5⟩, l6⟩ := h
      obtain ⟨da1, da2, _⟩ := dbg_of a4
      obtain ⟨db1, db2, _⟩ := dbg_of b4
      obtain ⟨dc1, dc2, _⟩ := dbg_of c3
      obtain ⟨r1, r2, r3, r4⟩ := okKy_pps (pos := _) g.toGood _ _ _ _ k1 k2 k3
      obtain ⟨s1, s2, s3, s4⟩ := okKy_pps (pos := _) g.toGood _ _ _ _ l1 l2 l3
      exact pss_dsel (by have := g.un; omega) g.nd hij hni hnj (nm_of g.toGood a1) (loc_of g a2) (.inl (g.fn _)) (vis_of g.toGood a3) da1 da2 (nm_of g.toGood b1) (loc_of g b2) (.inl (g.fn _)) (vis_of g.toGood b3) db1 db2 (nm_of g.toGood c1) (vis_of g.toGood c2) dc1 dc2 r1 r2 k3 k4 k5 k6 r3 (by omega) s1 s2 l3 l4 l5 l6 s3 (by omega)
    · cases h
  | .disp i x kfs m ms, sts, T, sc, N, C, X, g, h => by
    simp only [okSs] at h
    split at h
    · simp only [Bool.and_eq_true, beq_iff_eq, List.any_eq_true, Bool.not_eq_true'] at h
      obtain ⟨⟨⟨⟨⟨⟨⟨⟨⟨⟨⟨⟨⟨⟨⟨rfl, rfl⟩, h0⟩, h1⟩, h2⟩, h3⟩, h4⟩, h5⟩, h6⟩, h7⟩, h8⟩, h9⟩, h10⟩, h11⟩, p, hp, e1⟩, q, hq, e2, e3⟩ := h
      obtain ⟨a, D⟩ := g.dct p hp
      rw [e1] at D
      have F := g.dcf q hq a (by rw [e2]; exact D.mg)
      obtain ⟨d1, d2, _⟩ := dbg_of h4
      refine pss_disp g.K D ⟨fun z hz => ?_⟩ (gl_of g.toGood h5) (dbg_of h6).1 g.nd (nm_of g.toGood h1) (loc_of g h2) (.inl (g.fn _)) (sE m _ T sc N C X g.toGood h8) (plain_ix h7) (g.room h0) (vis_of g.toGood h3) (g.pass h0) (sVs ms _ T sc N C X g.toGood h11) h9 h10 d1 d2
      have e4 := List.all_eq_true.mp e3 z hz
      simp only [List.any_eq_true, Bool.and_eq_true, beq_iff_eq, Bool.not_eq_true'] at e4
      obtain ⟨nm, r, hr, e5, e6⟩ := e4
      obtain ⟨fn, fa, y1, y2, y3⟩ := F r hr
      rw [e5] at y2
      rw [e6] at y1 y3
      exact ⟨fn, fa, by rw [g.tab]; exact y1, g.fns z.2 fn y1 nm, y2, y3⟩
    · cases h
theorem sHs : ∀ (hs : Hs) (hds : List ExceptHandler) (T : St0) (sc : Scope) (N : List Str) (C : C0) (X : Cx), GoodS C X T sc N → T.hot = false → okHs T sc N hs hds = true → HM C X hs hds
  | .nil, hds, T, sc, N, C, X, g, h0, h => by
    simp only [okHs] at h
    split at h
    · exact .nil
    · cases h
  | .cons c as mb r, hds, T, sc, N, C, X, g, h0, h => by
    simp only [okHs] at h
    split at h
    · simp only [Bool.and_eq_true, beq_iff_eq, List.any_eq_true] at h
      obtain ⟨⟨⟨⟨⟨⟨p, hp, e1, e2⟩, h1⟩, h2⟩, h3⟩, h4⟩, h5⟩ := h
      obtain ⟨kn, Ca, ec, hm⟩ := g.knd p hp
      rw [e1] at hm
      rw [e2] at kn ec
      have hc : Names X _ (C.T.cls c) := ⟨gl_of g.toGood h1, (dbg_of h2).1, .inl (by rw [ec]; exact hm)⟩
      split at h5
      · exact .cons hc kn (fun a oe cls d pn hz hf => sSs mb _ _ sc N C.st _ (g.st h0) h3) (sHs r _ T sc N C X g h0 h4)
      · simp only [Bool.and_eq_true] at h5
        refine .consAs hc kn (nm_of g.toGood h5.1) ?_ (fun a oe cls d pn hz hf => sSs mb _ _ sc N (C.su a cls d) _ (g.su hz hf) h3) (sHs r _ T sc N C X g h0 h4)
        have h6 := h5.2
        split at h6
        · rename_i e; show X.env.scope.names.lookup _ = _; rw [g.sc]; exact e
        · cases h6
      · cases h5
    · cases h
end
end Rp

/-! Rp, part 14: defs, the head, the end. -/
namespace Rp
open PySem PySem.Spec PyProof.Rows L2

/-- a def: its number, name, place at the top, slots, mini body -/
structure Row where
  f : Nat
  x : Str
  i : Nat
  N : List Str
  fn : Fn
  c : Option Str
  ob : Bool
noncomputable def tabR (rs : List Row) (f : Nat) : Option Fn := (rs.find? fun r => r.f == f).map (·.fn)
noncomputable def nameR (rs : List Row) (f : Nat) : Str := match rs.find? fun r => r.f == f with
  | some r => r.x
  | none => ⟨#[]⟩
noncomputable def topSt (P : Program) (i : Nat) : Stmt := P.main.body.getD i (.Pass ⟨0, 0, 0, 0⟩)
/-- a method's text -/
noncomputable def isCls (x : Str) : Stmt → Bool
  | .ClassDef n _ _ _ _ _ _ _ _ _ _ => n == x
  | _ => false
noncomputable def isDef (m : Str) : Stmt → Bool
  | .FunctionDef n _ _ _ _ _ _ _ _ _ => n == m
  | _ => false
noncomputable def methSt (P : Program) (x m : Str) : Stmt := match P.main.body.find? (isCls x) with
  | some (.ClassDef _ _ _ body _ _ _ _ _ _ _) => (body.find? (isDef m)).getD (.Pass ⟨0, 0, 0, 0⟩)
  | _ => .Pass ⟨0, 0, 0, 0⟩
/-- a row's text, its whole name, where it stands -/
noncomputable def stR (P : Program) (r : Row) : Stmt := match r.c with
  | some c => methSt P c r.x
  | none => topSt P r.i
noncomputable def qualR (r : Row) : Str := match r.c with
  | some c => c ++ "." ++ r.x
  | none => r.x
noncomputable def adR (K : PySem.W.Frag) (r : Row) : Addr := match r.c with
  | some c => He.ma K (He.ga K c) r.x
  | none => He.ga K r.x
noncomputable def isMR (rs : List Row) (f : Nat) : Bool := match rs.find? fun r => r.f == f with
  | some r => r.ob
  | none => false
noncomputable def parOf (st : Stmt) : List Str := (defArgs st).args.map (·.arg)
/-- plain parameters -/
noncomputable def plainB (a : Arguments) : Bool := a.posonlyargs.isEmpty && a.vararg.isNone && a.kwonlyargs.isEmpty && a.kwarg.isNone && a.defaults.isEmpty
/-- the default of a row's last parameter -/
noncomputable def dflR (T : St0) (r : Row) : Option (Str × Int) := (T.dfl.find? fun p => p.1 == r.f).map (·.2)
noncomputable def dvR (T : St0) (r : Row) : List V := match dflR T r with
  | some p => [.int p.2]
  | none => []
/-- two plain parameters -/
noncomputable def plain2 (kw : Str) (a : Arguments) : Bool := a.posonlyargs.isEmpty && a.vararg.isNone && a.kwonlyargs.isEmpty && a.kwarg.isNone && (match a.args with
  | [a1, a2] => a2.arg == kw && a1.arg != a2.arg
  | _ => false)
noncomputable def parB (T : St0) (r : Row) (a : Arguments) : Bool := match dflR T r with
  | some p => plain2 p.1 a
  | none => plainB a
noncomputable def scopeB (N ps : List Str) (sc : Scope) : Bool := (match sc.kind with | .function => true | _ => false) && !sc.isCoroutine && !sc.isGenerator && decide N.Nodup && decide (N.take ps.length = ps) && ps.all (stD sc) && sc.names.all fun y => match y.2 with | .free => false | _ => true
theorem scope_of {N ps : List Str} {sc : Scope} (h : scopeB N ps sc = true) : FnScope N ps sc := by
  unfold scopeB at h
  simp only [Bool.and_eq_true, Bool.not_eq_true', decide_eq_true_eq, List.all_eq_true] at h
  obtain ⟨⟨⟨⟨⟨⟨h1, h2⟩, h3⟩, h4⟩, h5⟩, h6⟩, h7⟩ := h
  refine ⟨?_, h2, h3, h4, h5, fun x hx => ?_, fun y hy e => ?_⟩
  · split at h1
    · assumption
    · cases h1
  · have q := h6 x hx
    unfold stD at q
    split at q
    · rename_i e; exact .inl e
    · rename_i e; exact .inr e
    · cases q
  · have q := h7 y hy
    rw [e] at q
    cases q
noncomputable def rowB (P : Program) (T : St0) (r : Row) : Bool :=
  scopeB r.N (parOf (stR P r)) (defScope (stR P r)) && decide (r.N.length = r.fn.ns) && decide ((parOf (stR P r)).length = r.fn.np) && parB T r (defArgs (stR P r)) && okSs T (defScope (stR P r)) r.N r.fn.body (defBody (stR P r)) && (!r.ob || decide (0 < r.fn.np))
noncomputable def defD (P : Program) (T : St0) (r : Row) : He.DefD := ⟨(match r.c with | some c => (c, some r.x) | none => (r.x, none)), r.x, qualR r, defArgs (stR P r), defBody (stR P r), defScope (stR P r), (match dflR T r with | some p => [.int p.2] | none => []), []⟩
theorem defD_dvs {P : Program} {T : St0} {r : Row} {K : PySem.W.Frag} : (defD P T r).dvs K = dvR T r := by
  unfold He.DefD.dvs defD dvR
  cases dflR T r <;> rfl
theorem ns_len {N ps : List Str} {sc : Scope} (S : FnScope N ps sc) : ps.length ≤ N.length := by
  have := congrArg List.length S.pre
  rw [List.length_take] at this
  omega

/-! ### constants -/
mutual
noncomputable def datK (K : PySem.W.Frag) : D → Value → Bool
  | .none, u => (match u with | .none => true | _ => false)
  | .bool b, u => (match u with | .bool c => b == c | _ => false)
  | .int i, u => (match u with | .int j _ => i == j | _ => false)
  | .str x, u => (match u with | .str y _ => x == y && PyData.strOk x | _ => false)
  | .tuple ds, u => (match u with
    | .ref a => (match K.lookup a with
      | some ⟨.type c, _, .seq its _, _⟩ => decide (c = "tuple") && decide (its.size ≤ 1000) && datKs K ds its.toList
      | _ => false)
    | _ => false)
  | .list _, _ => false
  | .dict _, _ => false
noncomputable def datKs (K : PySem.W.Frag) : List D → List Value → Bool
  | [], us => us.isEmpty
  | d :: ds, us => (match us with
    | u :: us => datK K d u && datKs K ds us
    | [] => false)
end
mutual
theorem datK_ok {K : PySem.W.Frag} : ∀ (d : D) (u : Value), datK K d u = true → ∃ v, RelV v u ∧ ∀ H, Dq K H v d
  | .none, u, h => by
    simp only [datK] at h
    split at h
    · exact ⟨.non, rfl, fun _ => .non⟩
    · cases h
  | .bool b, u, h => by
    simp only [datK] at h
    split at h
    · have h := beq_iff_eq.mp h; subst h; exact ⟨.bl b, rfl, fun _ => .bl b⟩
    · cases h
  | .int i, u, h => by
    simp only [datK] at h
    split at h
    · have h := beq_iff_eq.mp h; subst h; exact ⟨.int i, ⟨_, rfl⟩, fun _ => .int i⟩
    · cases h
  | .str x, u, h => by
    simp only [datK] at h
    split at h
    · simp only [Bool.and_eq_true, beq_iff_eq] at h; obtain ⟨rfl, h⟩ := h; exact ⟨.str x, ⟨_, rfl⟩, fun _ => .str x h⟩
    · cases h
  | .tuple ds, u, h => by
    simp only [datK] at h
    split at h
    · split at h
      · rename_i a _ c _ its _ _ e
        simp only [Bool.and_eq_true, decide_eq_true_eq] at h
        obtain ⟨⟨rfl, h2⟩, h3⟩ := h
        obtain ⟨vs, r, q⟩ := datKs_ok ds _ h3
        exact ⟨.ref a, rfl, fun H => .tup (.inr ⟨_, its, _, e, rfl, rfl, Nat.le_trans h2 (by rw [sizeLine_eq]; decide), r⟩) (q H)⟩
      · cases h
    · cases h
  | .list _, _, h => by simp [datK] at h
  | .dict _, _, h => by simp [datK] at h
theorem datKs_ok {K : PySem.W.Frag} : ∀ (ds : List D) (us : List Value), datKs K ds us = true → ∃ vs, Vals vs us ∧ ∀ H, DqAll K H vs ds
  | [], us, h => by
    simp only [datKs] at h
    cases us with
    | nil => exact ⟨[], .nil, fun _ => .nil⟩
    | cons _ _ => cases h
  | d :: ds, us, h => by
    simp only [datKs] at h
    split at h
    · simp only [Bool.and_eq_true] at h
      obtain ⟨v, r1, q1⟩ := datK_ok d _ h.1
      obtain ⟨vs, r2, q2⟩ := datKs_ok ds _ h.2
      exact ⟨v :: vs, .cons r1 r2, fun H => .cons (q1 H) (q2 H)⟩
    · cases h
end
noncomputable def cstB (K : PySem.W.Frag) (p : Str × D) : Bool := match PySem.W.nsIn K mainGlobals p.1 with
  | some (some u) => datK K p.2 u
  | _ => false
/-- no list among the module's own objects -/
noncomputable def noLst (K : PySem.W.Frag) : Bool := K.all fun p => match p.2.cls with
  | .type c => !(c == "list")
  | _ => true
noncomputable def exnB (K : PySem.W.Frag) (p : Str × XC) : Bool := (He.Fa.exc p.1).ok K && (He.Fa.glo p.1).ok K
noncomputable def initSt (P : Program) (x : Str) : Stmt := methSt P x "__init__"
noncomputable def defX (P : Program) (p : Str × XC) : He.DefD := ⟨(p.1, some "__init__"), "__init__", p.1 ++ ".__init__", defArgs (initSt P p.1), defBody (initSt P p.1), defScope (initSt P p.1), [], []⟩
/-- a class of errors whose __init__ stores a field -/
noncomputable def oexB (K : PySem.W.Frag) (C : Addr) : Bool := match K.lookup C with
  | some ⟨.type "type", _, .cls cd, sl⟩ => (match cd.mro, sl.toList with
    | .ref C' :: bm, [_, _, _, _, some (.builtin n), _] => C' == C && n == "ValueError.__new__" && !cd.hasDel && cd.hasDict && PySem.HandSPX.refsVE bm
    | _, _ => false)
  | _ => false
theorem oexB_ok {K : PySem.W.Frag} {C : Addr} (h : oexB K C = true) : ∃ nm q N bs bm sn sub ab col dd k0 k1 k2 k3 k5, K.lookup C = some (excClassObj nm q C N bs bm true sn sub ab col dd k0 k1 k2 k3 k5 "ValueError.__new__") ∧ PySem.HandSPX.refsVE bm = true := by
  unfold oexB at h
  split at h
  · rename_i dd cd sl ho
    split at h
    · rename_i C' bm k0 k1 k2 k3 n k5 e1 e2
      simp only [Bool.and_eq_true, beq_iff_eq, Bool.not_eq_true'] at h
      obtain ⟨⟨⟨⟨rfl, rfl⟩, h3⟩, h4⟩, h5⟩ := h
      obtain ⟨nm, bs, mro, ns, qn, hd, sn, sb, ab, col, del⟩ := cd
      dsimp only at e1 h3 h4
      subst e1 h3 h4
      have e2 : sl = #[k0, k1, k2, k3, some (.builtin "ValueError.__new__"), k5] := by
        apply Array.ext'
        rw [e2]
      subst e2
      exact ⟨_, _, _, _, bm, _, _, _, _, _, _, _, _, _, _, ho, h5⟩
    · cases h
  · cases h
noncomputable def locB (sc : Scope) (x : Str) : Bool := match sc.names.lookup x with | some .local => true | _ => false
theorem locB_ok {sc : Scope} {x : Str} (h : locB sc x = true) : sc.names.lookup x = some .local := by
  unfold locB at h
  split at h
  · assumption
  · cases h
theorem gloB_ok {sc : Scope} {x : Str} (h : gloB sc x = true) : sc.names.lookup x = some .globalImplicit := by
  unfold gloB at h
  split at h
  · assumption
  · cases h
/-- the text of the __init__ -/
noncomputable def payP (P : Program) (p : Str × XC) : Bool := initB (xf p.2) "PaperError" (defBody (initSt P p.1)) && scopeB ["self", xf p.2] ["self", xf p.2] (defScope (initSt P p.1)) && locB (defScope (initSt P p.1)) "self" && locB (defScope (initSt P p.1)) (xf p.2) && notDbgX (xf p.2) &&
  gloB (defScope (initSt P p.1)) "PaperError" && decide (parOf (initSt P p.1) = ([("self" : Str), xf p.2] : List Str)) && plainB (defArgs (initSt P p.1))
noncomputable def payK (K : PySem.W.Frag) (p : Str × XC) : Bool := oexB K (He.ga K p.1) && decide (PySem.W.findIn K (.ref (He.ga K p.1)) "__setattr__" = some (some (.builtin "object.__setattr__"))) && decide (PySem.W.subIn K (.ref (He.ga K p.1)) (.type "BaseException") = some true) && decide (PySem.W.typeIn K (.ref (He.ga K p.1)) = some (.type "type")) &&
  PySem.W.keepIn K (.ref (He.ga K p.1)) && (He.Fa.meth p.1 "__init__").ok K && decide (PySem.W.typeIn K (.ref (He.ma K (He.ga K p.1) "__init__")) = some (.type "function")) && (He.Fa.glo "PaperError").ok K && binitB K (He.ga K "PaperError")
/-- classes of objects: the text of __init__, what is asked of the class -/
noncomputable def defI (P : Program) (p : Str × List (Str × Fi)) : He.DefD := ⟨(p.1, some "__init__"), "__init__", p.1 ++ ".__init__", defArgs (initSt P p.1), defBody (initSt P p.1), defScope (initSt P p.1), [], []⟩
noncomputable def parI (P : Program) (p : Str × List (Str × Fi)) : Option Str := (parOf (initSt P p.1)).tail.head?
noncomputable def iniP (P : Program) (p : Str × List (Str × Fi)) : Bool := iniB (parI P p) p.2 (defBody (initSt P p.1)) && scopeB ("self" :: (parI P p).toList) ("self" :: (parI P p).toList) (defScope (initSt P p.1)) && locB (defScope (initSt P p.1)) "self" && (match parI P p with | some y => locB (defScope (initSt P p.1)) y && notDbgX y | none => true) &&
  decide ((p.2.map (·.1)).Nodup) && decide (p.2.length < 1000) && decide (parOf (initSt P p.1) = (("self" : Str) :: (parI P p).toList : List Str)) && plainB (defArgs (initSt P p.1)) && decide ((parI P p).toList.length = nPar p.2)
noncomputable def oclK (K : PySem.W.Frag) (p : Str × List (Str × Fi)) : Bool := (He.Fa.cls p.1).ok K && (p.2.all fun q => (He.Fa.noat p.1 q.1).ok K) && (He.Fa.mkr p.1).ok K && (He.Fa.glo p.1).ok K
/-- rows of methods -/
noncomputable def rowK (K : PySem.W.Frag) (r : Row) : Bool := match r.c with
  | some c => (He.Fa.meth c r.x).ok K
  | none => (He.Fa.glo r.x).ok K
/-- a def to which a list is lent -/
noncomputable def isL (T : St0) (f : Nat) : Bool := T.lfn.any fun p => p.1 == f
noncomputable def lntU (rs : List Row) (T : St0) : Bool := (T.mts.all fun p => !isL T p.1) && (T.ofn.all fun p => !isL T p.1) && T.lfn.all fun p => match rs.find? fun r => r.f == p.1 with | some r => r.c == none && r.x == p.2 && r.ob | none => false
noncomputable def objU (rs : List Row) (T : St0) : Bool := (T.mts.all fun p => match rs.find? fun r => r.f == p.1 with | some r => r.c == some p.2.1 && r.x == p.2.2 && r.ob && T.ocl.any (fun q => q.1 == p.2.1) | none => false) &&
  (T.ofn.all fun p => match rs.find? fun r => r.f == p.1 with | some r => r.c == none && r.x == p.2 && r.ob | none => false) && !T.inn && (rs.all fun r => r.ob || r.c == none) && T.dfl.all fun p => match rs.find? fun r => r.f == p.1 with | some r => r.c == none && !r.ob && decide (dflR T r = some p.2) && decide (r.fn.np = 2) | none => false
/-- what is asked of each class of errors, and of each two -/
noncomputable def allE (T : St0) : List (Str × XC) := T.exn ++ T.exp
noncomputable def oneB (K : PySem.W.Frag) (p : Str × XC) : Bool := (He.Fa.glo p.1).ok K && xclsB K (He.ga K p.1) && decide (PySem.W.findIn K (.ref (He.ga K p.1)) (xf p.2) = some none) && decide (PySem.W.kitOne K (.ref (He.ga K p.1)) (.type "ValueError") = some true)
noncomputable def twoB (K : PySem.W.Frag) (p q : Str × XC) : Bool := decide (PySem.W.exmOne K (.ref (He.ga K p.1)) (.ref (He.ga K q.1)) = some (subX p.2 q.2)) && decide (PySem.W.kitOne K (.ref (He.ga K p.1)) (.ref (He.ga K q.1)) = some (subX p.2 q.2))
noncomputable def errB (T : St0) (K : PySem.W.Frag) : Bool := (allE T).all (oneB K) && (allE T).all (fun p => (allE T).all (twoB K p)) && T.exp.all (payK K)
/-- dicts of the module: values -/
noncomputable def dcvB (K : PySem.W.Frag) (p : Str × List (Str × D)) : Bool := p.2.all fun q => match PySem.W.nsIn K (He.ga K p.1) q.1 with
  | some (some u) => datK K q.2 u
  | _ => false
noncomputable def dcfB (rs : List Row) (K : PySem.W.Frag) (p : Str × List (Str × Nat)) : Bool := p.2.all fun q => (tabR rs q.2).isSome && decide (PySem.W.nsIn K (He.ga K p.1) q.1 = some (some (.ref (He.ga K (nameR rs q.2))))) && (He.Fa.glo (nameR rs q.2)).ok K
noncomputable def dctB (rs : List Row) (T : St0) (K : PySem.W.Frag) : Bool := T.dct.all (fun p => (He.Fa.glo p.1).ok K) && T.dcv.all (dcvB K) && T.dcf.all (dcfB rs K) && T.dcv.all (fun p => T.dct.any fun q => q.1 == p.1) && T.dcf.all (fun p => T.dct.any fun q => q.1 == p.1)
/-- what is asked of the objects behind the top -/
noncomputable def moreB (rs : List Row) (T : St0) (K : PySem.W.Frag) : Bool := noLst K && T.cst.all (cstB K) && T.exn.all (exnB K) && bltAll.all (fun x => (He.Fa.free x).ok K) && rs.all (rowK K) && errB T K && dctB rs T K && T.ocl.all (oclK K)

/-! ### the Hook -/
noncomputable abbrev AlR : Type := He.AlD × Bool × List (Option (List (Option (Str × Int))))
structure SaysR (P : Program) (rs : List Row) (T : St0) (w : World) (K : PySem.W.Frag) : Prop where
  d : He.SaysD [] (rs.map (defD P T) ++ T.exp.map (defX P) ++ T.ocl.map (defI P)) K
  m : moreB rs T K = true
  k : T.dct.map (fun p : Str × List Str => He.dicW K (He.ga K p.1)) = T.dct.map (fun p : Str × List Str => some (He.keysIn w.params p.2))
noncomputable def asR (_ : Addr → Option Obj) (n : Nat) : List Addr := List.range n
noncomputable def obsR (n : Nat) (P : Program) (rs : List Row) (T : St0) (g : Addr → Option Obj) : AlR := (He.obsD [] (rs.map (defD P T) ++ T.exp.map (defX P) ++ T.ocl.map (defI P)) (He.frG g (asR g n)), moreB rs T (He.frG g (asR g n)), T.dct.map (fun p : Str × List Str => He.dicW (He.frG g (asR g n)) (He.ga (He.frG g (asR g n)) p.1)))
noncomputable def hookR (n : Nat) (P : Program) (rs : List Row) (T : St0) : PySem.W.Hook where
  α := AlR
  obs := fun s => obsR n P rs T s.heap.get?
  val := fun w => (He.valD (rs.map (defD P T) ++ T.exp.map (defX P) ++ T.ocl.map (defI P)), true, T.dct.map (fun p : Str × List Str => some (He.keysIn w.params p.2)))
  says := fun w h => ∃ K : PySem.W.Frag, K.In h ∧ SaysR P rs T w K
  of := fun _ _ e => ⟨_, He.frG_in, ⟨congrArg (fun z : AlR => z.1) e, congrArg (fun z : AlR => z.2.1) e, congrArg (fun z : AlR => z.2.2) e⟩⟩
  keeps := fun _ _ _ ⟨K, hK, c⟩ k => ⟨K, PySem.W.Frag.In.keeps hK k, c⟩
noncomputable def obR (n : Nat) (P : Program) (rs : List Row) (T : St0) (s : PySem.W.SharedT) : AlR := obsR n P rs T (HandSHeadRun.getT s)
theorem obR_eq (n : Nat) (P : Program) (rs : List Row) (T : St0) (s : PySem.W.SharedT) : obR n P rs T s = (hookR n P rs T).obs s.abs := by
  unfold obR
  have e : HandSHeadRun.getT s = s.abs.heap.get? := funext (HandSHeadRun.getT_eq s)
  rw [e]
  rfl
open PySem.W PySem.Calls PyProof.Rows in
/-- where the top's run ends -/
noncomputable def endR (r : OpenRow) (M : Nat) (w : World) (os : OsState) : Option SharedT := HandSHeadRun.endF (HandSHeadRun.stepQ (HandSHeadRun.denQ HandSHeadRun.tabQ) r.prog w) M r.prog w os
open PySem.W PySem.Calls PyProof.Rows in
noncomputable def runA (r : OpenRow) (q : Program) (M : Nat) (loose : List PySem.Str) (w : World) : Prop :=
  ∀ os : OsState, (endR r M w os).map (fun s => (HandSHeadRun.looksF r.prog (boot_heap w.params) s.abs, HandSHeadRun.seenQ q loose (importedModules r.prog.main.body) (fun s => xlAt q [] s && recOk r.toRowW.records s) s.abs)) = some (true, openGood q loose)
open PySem.W PySem.Calls PyProof.Rows in
noncomputable def runB (r : OpenRow) (M n : Nat) (P : Program) (rs : List Row) (T : St0) (w : World) : Prop :=
  ∀ os : OsState, (endR r M w os).map (fun s => He.obsD [] (rs.map (defD P T) ++ T.exp.map (defX P) ++ T.ocl.map (defI P)) (He.frG (HandSHeadRun.getT s) (asR (HandSHeadRun.getT s) n))) = some (He.valD (rs.map (defD P T) ++ T.exp.map (defX P) ++ T.ocl.map (defI P)))
open PySem.W PySem.Calls PyProof.Rows in
noncomputable def runC (r : OpenRow) (M n : Nat) (rs : List Row) (T : St0) (w : World) : Prop :=
  ∀ os : OsState, (endR r M w os).map (fun s => (moreB rs T (He.frG (HandSHeadRun.getT s) (asR (HandSHeadRun.getT s) n)), T.dct.map (fun p : Str × List Str => He.dicW (He.frG (HandSHeadRun.getT s) (asR (HandSHeadRun.getT s) n)) (He.ga (He.frG (HandSHeadRun.getT s) (asR (HandSHeadRun.getT s) n)) p.1)))) = some (true, T.dct.map (fun p : Str × List Str => some (He.keysIn w.params p.2)))
/-- the run's equation, looked at part by part -/
theorem run_split {r : PySem.W.OpenRow} {q : Program} {M n : Nat} {P : Program} {rs : List Row} {T : St0} {loose : List PySem.Str} {w : World} (h1 : runA r q M loose w) (h2 : runB r M n P rs T w) (h3 : runC r M n rs T w) : HandSHeadRun.RunEq r q (hookR n P rs T) (obR n P rs T) M loose w := by
  intro os
  have a := h1 os
  have b := h2 os
  have c := h3 os
  unfold endR at a b c
  generalize HandSHeadRun.endF (HandSHeadRun.stepQ (HandSHeadRun.denQ HandSHeadRun.tabQ) r.prog w) M r.prog w os = E at *
  cases E with
  | none => cases a
  | some s =>
    have a := Option.some.inj a
    have b := Option.some.inj b
    have c := Option.some.inj c
    have a1 := congrArg (fun z => z.1) a
    have a2 := congrArg (fun z => z.2) a
    have c1 := congrArg (fun z => z.1) c
    have c2 := congrArg (fun z => z.2) c
    exact congrArg some (Prod.ext a1 (Prod.ext a2 (Prod.ext b (Prod.ext c1 c2))))

/-! ### every def keeps its promise -/
theorem fm_congr {α β : Type} {f g : α → Option β} : ∀ {l : List α}, (∀ x ∈ l, f x = g x) → l.filterMap f = l.filterMap g
  | [], _ => rfl
  | a :: l, h => by
    rw [List.filterMap_cons, List.filterMap_cons, h a List.mem_cons_self, fm_congr (l := l) fun x hx => h x (List.mem_cons_of_mem _ hx)]
theorem zip_some : ∀ {ps : List Str} {us : List Value} {n : Str}, us.length = ps.length → n ∈ ps → ((ps.zip us).lookup n).isSome = true
  | [], _, _, _, h => by cases h
  | p :: ps, [], _, e, _ => by cases e
  | p :: ps, u :: us, n, e, h => by
    show (((p, u) :: ps.zip us).lookup n).isSome = true
    rw [List.lookup_cons]
    cases q : n == p with
    | true => rfl
    | false =>
      have hn : n ∈ ps := by
        rcases List.mem_cons.mp h with z | z
        · subst z; simp at q
        · exact z
      exact zip_some (by simpa using e) hn
theorem zip_map : ∀ {ps : List Str} {us : List Value}, ps.Nodup → us.length = ps.length → ps.filterMap (fun n => ((ps.zip us).lookup n).map (n, ·)) = ps.zip us
  | [], us, _, e => rfl
  | p :: ps, [], _, e => by cases e
  | p :: ps, u :: us, nd, e => by
    have nd' := List.nodup_cons.mp nd
    have e' : us.length = ps.length := by simpa using e
    have ih := zip_map nd'.2 e'
    have cg : ∀ n ∈ ps, ((((p :: ps).zip (u :: us)).lookup n).map (n, ·)) = (((ps.zip us).lookup n).map (n, ·)) := fun n hn => by
      show ((((p, u) :: ps.zip us).lookup n).map _) = _
      rw [List.lookup_cons]
      have q : (n == p) = false := by
        simp only [beq_eq_false_iff_ne]
        rintro rfl
        exact nd'.1 hn
      rw [q]
    show List.filterMap _ (p :: ps) = (p, u) :: ps.zip us
    have h0 : (((p :: ps).zip (u :: us)).lookup p).map (p, ·) = some (p, u) := by
      show ((((p, u) :: ps.zip us).lookup p).map _) = _
      rw [List.lookup_cons]; simp
    rw [List.filterMap_cons, h0]
    show (p, u) :: List.filterMap _ ps = _
    rw [← ih]
    congr 1
    exact fm_congr cg
theorem bind_eq {x qual : Str} {args : List Arg} {kd : List (Option Expr)} {body : List Stmt} {scope : Scope} {kV doc pm : Value} {an : Option Addr} {cdv ct : Value} {us : List Value} (nd : (args.map (·.arg)).Nodup) (hl : us.length = (args.map (·.arg)).length) :
    bindArgs (PySem.W.fnOf x qual ⟨[], args, none, [], kd, none, []⟩ body scope .none kV doc pm an cdv ct) ⟨us, []⟩ = pure ((args.map (·.arg)).zip us) := by
  obtain ⟨ps, hps⟩ : ∃ ps, ps = args.map (·.arg) := ⟨_, rfl⟩
  have miss : ps.filter (fun n => ((ps.zip us).lookup n).isNone) = [] := by
    rw [List.filter_eq_nil_iff]
    intro n hn
    have := zip_some (hps ▸ hl) hn
    simp only [Option.isNone_iff_eq_none]
    intro e
    rw [e] at this
    cases this
  have fm := zip_map (us := us) (hps ▸ nd) (hps ▸ hl)
  have e0 : notAStandIn Value.none = pure () := rfl
  rw [← hps] at hl
  unfold bindArgs PySem.W.fnOf
  simp only [← hps, List.map_nil, List.nil_append, seqItems?, pure_bind, e0]
  simp [hl, miss, fm]
theorem plain_of {a : Arguments} (h : plainB a = true) : ∃ args kd, a = ⟨[], args, none, [], kd, none, []⟩ := by
  obtain ⟨a1, a2, a3, a4, a5, a6, a7⟩ := a
  unfold plainB at h
  simp only [Bool.and_eq_true, List.isEmpty_iff, Option.isNone_iff_eq_none] at h
  obtain ⟨⟨⟨⟨rfl, rfl⟩, rfl⟩, rfl⟩, rfl⟩ := h
  exact ⟨a2, a5, rfl⟩
section
variable {P : Program} {w : World} {K : PySem.W.Frag} {mg : Str → Option Value} {base h : Heap} {rs : List Row} {T : St0}
/-- what the program is worth at K -/
noncomputable def prOf (rs : List Row) (T : St0) (K : PySem.W.Frag) : Pr := ⟨tabR rs, nameR rs, fun c => .ref (He.ga K (((allE T).find? fun p => p.2 == c).elim ⟨#[]⟩ (·.1))), T.cst, fun c => ∃ p ∈ allE T, p.2 = c, ⟨fun c => He.ga K c, fun c fs => ∃ p ∈ T.ocl, p.1 = c ∧ p.2.map (·.1) = fs⟩⟩
structure Facts (P : Program) (w : World) (K : PySem.W.Frag) (mg : Str → Option Value) (rs : List Row) (T : St0) : Prop where
  rows : ∀ r ∈ rs, rowB P T r = true
  defs : ∀ r ∈ rs, ∃ fd, FunD K r.x (qualR r) (defArgs (stR P r)) (defBody (stR P r)) (defScope (stR P r)) (dvR T r) [] (adR K r) fd
  glo : ∀ r ∈ rs, r.c = none → mg r.x = some (.ref (He.ga K r.x))
  mth : ∀ r ∈ rs, ∀ c, r.c = some c → Meth K (He.ga K c) r.x (He.ma K (He.ga K c) r.x)
  obu : objU rs T = true
  isM : T.isM = isMR rs
  lnu : lntU rs T = true
  inip : ∀ p ∈ T.ocl, iniP P p = true
  ocl : ∀ p ∈ T.ocl, Cls K (He.ga K p.1) ∧ (∀ q ∈ p.2, NoAttr K (He.ga K p.1) q.1) ∧ Mk K (He.ga K p.1) (He.ma K (He.ga K p.1) "__init__") ∧ mg p.1 = some (.ref (He.ga K p.1)) ∧
    ∃ fd, FunD K "__init__" (p.1 ++ ".__init__") (defArgs (initSt P p.1)) (defBody (initSt P p.1)) (defScope (initSt P p.1)) [] [] (He.ma K (He.ga K p.1) "__init__") fd
  blt : ∀ x ∈ bltAll, mg x = none
  cst : ∀ p ∈ T.cst, ∃ u v, mg p.1 = some u ∧ RelV v u ∧ ∀ H, Dq K H v p.2
  exn : ∀ p ∈ T.exn, ExcOk K mg p.1 ((prOf rs T K).cls p.2)
  tab : T.tab = tabR rs
  name : T.name = nameR rs
  cold : T.hot = false
  dct : ∀ p ∈ T.dct, mg p.1 = some (.ref (He.ga K p.1)) ∧ ∃ es n, KDict K w (He.ga K p.1) es n ∧ es.toList.map He.keyOf = He.keysIn w.params p.2
  dcv : ∀ p ∈ T.dcv, mg p.1 = some (.ref (He.ga K p.1)) ∧ ∀ q ∈ p.2, ∃ u v, PySem.W.nsIn K (He.ga K p.1) q.1 = some (some u) ∧ RelV v u ∧ ∀ H, Dq K H v q.2
  dcf : ∀ p ∈ T.dcf, mg p.1 = some (.ref (He.ga K p.1)) ∧ ∀ q ∈ p.2, ∃ fn, tabR rs q.2 = some fn ∧ PySem.W.nsIn K (He.ga K p.1) q.1 = some (some (.ref (He.ga K (nameR rs q.2)))) ∧ mg (nameR rs q.2) = some (.ref (He.ga K (nameR rs q.2)))
  cls : ∀ p ∈ allE T, (prOf rs T K).cls p.2 = .ref (He.ga K p.1)
  one : ∀ p ∈ allE T, mg p.1 = some (.ref (He.ga K p.1)) ∧ XCls K (He.ga K p.1) ∧ PySem.W.findIn K (.ref (He.ga K p.1)) (xf p.2) = some none ∧ PySem.W.kitOne K (.ref (He.ga K p.1)) (.type "ValueError") = some true
  two : ∀ p ∈ allE T, ∀ q ∈ allE T, PySem.W.exmOne K (.ref (He.ga K p.1)) (.ref (He.ga K q.1)) = some (subX p.2 q.2) ∧ PySem.W.kitOne K (.ref (He.ga K p.1)) (.ref (He.ga K q.1)) = some (subX p.2 q.2)
  payp : ∀ p ∈ T.exp, payP P p = true
  pay : ∀ p ∈ T.exp, OexC K (He.ga K p.1) ∧ PySem.W.findIn K (.ref (He.ga K p.1)) "__init__" = some (some (.ref (He.ma K (He.ga K p.1) "__init__"))) ∧ PySem.W.typeIn K (.ref (He.ma K (He.ga K p.1) "__init__")) = some (.type "function") ∧
    mg "PaperError" = some (.ref (He.ga K "PaperError")) ∧ BInit K (He.ga K "PaperError") ∧ ∃ fd, FunD K "__init__" (p.1 ++ ".__init__") (defArgs (initSt P p.1)) (defBody (initSt P p.1)) (defScope (initSt P p.1)) [] [] (He.ma K (He.ga K p.1) "__init__") fd
theorem start_at {N : List Str} {vs : List V} {i : Nat} {v : V} (h : vs[i]? = some v) : (start N vs)[i]? = some (some v) := by
  unfold L2.start
  have hi : i < vs.length := (List.getElem?_eq_some_iff.mp h).1
  rw [List.getElem?_append_left (by simpa using hi), List.getElem?_map, h]
  rfl
/-- at a def's entry -/
theorem rel_start {n : Lv} {N : List Str} {vs : List V} {ds : List D} {ω : Om} {H : Hp} {ns : Nat} (hd : Dom ω H) (q : DqAll K (hide H ω) vs ds) (hN : N.length = ns) (hl : ds.length ≤ ns) :
    Rel n K ⟨H, ω, none⟩ ω (start N vs) H ⟨ds.map (fun d => some (W.val d)) ++ List.replicate (ns - ds.length) none⟩ := by
  have el := dps_len q
  refine ⟨Stp.refl hd, fun i w e => ?_, ?_, OKeep.refl⟩
  · unfold getS at e
    by_cases hi : i < ds.length
    · rw [List.getElem?_append_left (by simpa using hi), List.getElem?_map] at e
      cases ed : ds[i]? with
      | none => rw [ed] at e; cases e
      | some d =>
        rw [ed] at e
        cases e
        obtain ⟨v, ev, qv⟩ := dps_get' q ed
        exact ⟨v, start_at ev, qv⟩
    · rw [List.getElem?_append_right (by simpa using hi)] at e
      rw [List.getElem?_replicate] at e
      split at e <;> cases e
  · unfold L2.start
    simp only [List.length_append, List.length_map, List.length_replicate]
    omega
/-- .. at a method's entry -/
theorem rel_startM {n : Lv} {N : List Str} {a : Addr} {o : Ob} {vs : List V} {ds : List D} {ω : Om} {H : Hp} {ns : Nat} (hd : Dom ω H) (oa : OAt n.oc K ω H a o) (q : DqAll K (hide H ω) vs ds) (hN : N.length = ns) (hl : ds.length + 1 ≤ ns) :
    Rel n K ⟨H, ω, some a⟩ ω (start N (.ref a :: vs)) H ⟨some (W.obj o) :: ds.map (fun d => some (W.val d)) ++ List.replicate (ns - (ds.length + 1)) none⟩ := by
  have el := dps_len q
  refine ⟨Stp.refl hd, fun i w e => ?_, ?_, OKeep.refl⟩
  · cases i with
    | zero =>
      cases e
      exact ⟨a, rfl, .inl ⟨rfl, rfl⟩, oa⟩
    | succ i =>
      unfold getS at e
      simp only [List.cons_append, List.getElem?_cons_succ] at e
      by_cases hi : i < ds.length
      · rw [List.getElem?_append_left (by simpa using hi), List.getElem?_map] at e
        cases ed : ds[i]? with
        | none => rw [ed] at e; cases e
        | some d =>
          rw [ed] at e
          cases e
          obtain ⟨v, ev, qv⟩ := dps_get' q ed
          exact ⟨v, start_at (vs := .ref a :: vs) (i := i + 1) (by simpa using ev), qv⟩
      · rw [List.getElem?_append_right (by simpa using hi)] at e
        rw [List.getElem?_replicate] at e
        split at e <;> cases e
  · unfold L2.start
    simp only [List.length_append, List.length_map, List.length_replicate, List.length_cons]
    omega
/-- .. at the entry of a def to which a list is lent -/
theorem rel_startL {n : Lv} {N : List Str} {a : Addr} {v0 v2 : V} {d0 d2 : D} {ds : List D} {ω : Om} {H : Hp} {ns : Nat} (hd : Dom ω H) (la : LAt K ω H a ds) (q0 : Dq K (hide H ω) v0 d0) (q2 : Dq K (hide H ω) v2 d2) (hN : N.length = ns) (hl : 3 ≤ ns) :
    Rel n K ⟨H, ω, some a⟩ ω (start N [v0, .ref a, v2]) H ⟨some (W.val d0) :: some (W.lnt true ds) :: some (W.val d2) :: List.replicate (ns - 3) none⟩ := by
  refine ⟨Stp.refl hd, fun i w e => ?_, ?_, OKeep.refl⟩
  · match i, e with
    | 0, e => cases e; exact ⟨v0, rfl, q0⟩
    | 1, e => cases e; exact ⟨a, rfl, .inl ⟨rfl, rfl⟩, la⟩
    | 2, e => cases e; exact ⟨v2, rfl, q2⟩
    | i + 3, e =>
      unfold getS at e
      simp only [List.getElem?_cons_succ] at e
      rw [List.getElem?_replicate] at e
      split at e <;> cases e
  · unfold L2.start
    simp only [List.length_append, List.length_map, List.length_replicate, List.length_cons, List.length_nil]
    omega
/-- two parameters, the second with a default -/
theorem bind2_full {x qual : Str} {a1 a2 : Arg} {kd : List (Option Expr)} {df : List Expr} {body : List Stmt} {scope : Scope} {Td : Addr} {kV doc pm : Value} {an : Option Addr} {cdv ct : Value} (hne : a1.arg ≠ a2.arg) (u1 u2 d : Value) :
    ∃ k, bindArgs (PySem.W.fnOf x qual ⟨[], [a1, a2], none, [], kd, none, df⟩ body scope (.ref Td) kV doc pm an cdv ct) ⟨[u1, u2], []⟩ = seqItems? (.ref Td) >>= k ∧ k (some #[d]) = pure [(a1.arg, u1), (a2.arg, u2)] := by
  refine ⟨_, rfl, ?_⟩
  have h2 : (a2.arg == a1.arg) = false := by simpa using fun z => hne (Eq.symm z)
  simp [List.lookup_cons, h2, PySem.W.fnOf]
theorem bind2_one {x qual : Str} {a1 a2 : Arg} {kd : List (Option Expr)} {df : List Expr} {body : List Stmt} {scope : Scope} {Td : Addr} {kV doc pm : Value} {an : Option Addr} {cdv ct : Value} (hne : a1.arg ≠ a2.arg) (u1 d : Value) :
    ∃ k, bindArgs (PySem.W.fnOf x qual ⟨[], [a1, a2], none, [], kd, none, df⟩ body scope (.ref Td) kV doc pm an cdv ct) ⟨[u1], []⟩ = seqItems? (.ref Td) >>= k ∧ k (some #[d]) = pure [(a1.arg, u1), (a2.arg, d)] := by
  refine ⟨_, rfl, ?_⟩
  have h2 : (a2.arg == a1.arg) = false := by simpa using fun z => hne (Eq.symm z)
  simp [List.lookup_cons, h2, PySem.W.fnOf]
theorem bind2_kw {x qual : Str} {a1 a2 : Arg} {kd : List (Option Expr)} {df : List Expr} {body : List Stmt} {scope : Scope} {Td : Addr} {kV doc pm : Value} {an : Option Addr} {cdv ct : Value} (hne : a1.arg ≠ a2.arg) (u1 u2 d : Value) :
    ∃ k, bindArgs (PySem.W.fnOf x qual ⟨[], [a1, a2], none, [], kd, none, df⟩ body scope (.ref Td) kV doc pm an cdv ct) ⟨[u1], [(a2.arg, u2)]⟩ = seqItems? (.ref Td) >>= k ∧ k (some #[d]) = pure [(a1.arg, u1), (a2.arg, u2)] := by
  have h2 : (a2.arg == a1.arg) = false := by simpa using fun z => hne (Eq.symm z)
  refine ⟨?k, ?h1, ?h3⟩
  case h1 =>
    unfold bindArgs PySem.W.fnOf
    simp only [List.map_cons, List.map_nil, List.nil_append, List.zip_cons_cons, List.zip_nil_right, List.zip_nil_left, List.lookup_cons, h2, List.lookup_nil, Option.isSome_none, List.contains_cons, beq_self_eq_true, Bool.or_true, Bool.true_or, if_true, List.forIn_cons, List.forIn_nil, pure_bind, bind_assoc, Bool.false_eq_true, if_false]
    rfl
  case h3 => simp [List.lookup_cons, h2]
theorem plain2_of {kw : Str} {a : Arguments} (h : plain2 kw a = true) : ∃ a1 a2 kd df, a = ⟨[], [a1, a2], none, [], kd, none, df⟩ ∧ a2.arg = kw ∧ a1.arg ≠ a2.arg := by
  obtain ⟨b1, b2, b3, b4, b5, b6, b7⟩ := a
  unfold plain2 at h
  simp only [Bool.and_eq_true, List.isEmpty_iff, Option.isNone_iff_eq_none] at h
  obtain ⟨⟨⟨⟨rfl, rfl⟩, rfl⟩, rfl⟩, h⟩ := h
  split at h
  · rename_i a1 a2
    simp only [Bool.and_eq_true, beq_iff_eq, bne_iff_ne] at h
    exact ⟨a1, a2, _, _, rfl, h.1, h.2⟩
  · cases h
theorem len1 {α : Type} {l : List α} (h : l.length = 1) : ∃ a, l = [a] := by
  match l, h with
  | [a], _ => exact ⟨a, rfl⟩
theorem len2 {α : Type} {l : List α} (h : l.length = 2) : ∃ a b, l = [a, b] := by
  match l, h with
  | [a, b], _ => exact ⟨a, b, rfl⟩
theorem row_dfl {r : Row} {p : Str × Int} {fd : FuncData} (hp : dflR T r = some p) (h4 : parB T r (defArgs (stR P r)) = true) (FD : FunD K r.x (qualR r) (defArgs (stR P r)) (defBody (stR P r)) (defScope (stR P r)) (dvR T r) [] (adR K r) fd) :
    Binds K fd (parOf (stR P r)) [] ∧ (∃ ds, Vals [V.int p.2] ds ∧ Binds K fd (parOf (stR P r)) ds) ∧ ∃ (g : List Value → List Value → List Value) (gV : List V → List V → List V), KBn K fd (parOf (stR P r)) 1 [p.1] g gV ∧ ∀ vs z, gV vs [z] = vs ++ [z] := by
  unfold parB at h4
  rw [hp] at h4
  obtain ⟨a1, a2, kd, df, ea, ek, hne⟩ := plain2_of h4
  have ed : dvR T r = [V.int p.2] := by unfold dvR; rw [hp]
  rw [ed] at FD
  have epar : parOf (stR P r) = [a1.arg, a2.arg] := by unfold parOf; rw [ea]; rfl
  rw [epar]
  rw [ea] at FD
  refine ⟨?_, ?_, ?_⟩
  · obtain ⟨ds, hv, hb⟩ := FD.binds1 (ps := [a1.arg, a2.arg]) 2 1 (by simp) rfl fun Td kV doc pm an cdv ct us its l1 l2 => by
      obtain ⟨u1, u2, rfl⟩ := len2 l1
      obtain ⟨d, rfl⟩ := len1 (show its.length = 1 from l2)
      exact bind2_full hne u1 u2 d
    cases hv
    exact hb
  · exact FD.binds1 (ps := [a1.arg, a2.arg]) 1 0 (by simp) rfl fun Td kV doc pm an cdv ct us its l1 l2 => by
      obtain ⟨u1, rfl⟩ := len1 l1
      obtain ⟨d, rfl⟩ := len1 (show its.length = 1 from l2)
      exact bind2_one hne u1 d
  · obtain ⟨its, kb⟩ := FD.kbindsD (ps := [a1.arg, a2.arg]) 1 [a2.arg] (fun vs _ zs => vs ++ zs) (by simp) (fun r1 _ r3 => r1.append r3) fun Td kV doc pm an cdv ct us its ws l1 l2 l3 => by
      obtain ⟨u1, rfl⟩ := len1 l1
      obtain ⟨d, rfl⟩ := len1 (show its.length = 1 from l2)
      obtain ⟨u2, rfl⟩ := len1 (show ws.length = 1 from l3)
      exact bind2_kw hne u1 u2 d
    rw [← ek]
    exact ⟨_, _, kb, fun _ _ => rfl⟩
theorem row_binds (F : Facts P w K mg rs T) {r : Row} (hr : r ∈ rs) {fd : FuncData} (FD : FunD K r.x (qualR r) (defArgs (stR P r)) (defBody (stR P r)) (defScope (stR P r)) (dvR T r) [] (adR K r) fd) :
    (parOf (stR P r)).length = r.fn.np ∧ Binds K fd (parOf (stR P r)) [] ∧ (dflR T r = none → ∀ (s : Shared) (us : List Value), us.length = (parOf (stR P r)).length → BindsTo s fd ⟨us, []⟩ ((parOf (stR P r)).zip us)) := by
  have hrow := F.rows r hr
  unfold rowB at hrow
  simp only [Bool.and_eq_true, decide_eq_true_eq] at hrow
  obtain ⟨⟨⟨⟨⟨h1, h2⟩, h3⟩, h4⟩, h5⟩, _⟩ := hrow
  have S := scope_of h1
  have ndP : (parOf (stR P r)).Nodup := by rw [← S.pre]; exact S.nd.sublist (List.take_sublist _ _)
  cases ed : dflR T r with
  | some p => exact ⟨h3, (row_dfl ed h4 FD).1, fun z => by cases z⟩
  | none =>
    have edv : dvR T r = [] := by unfold dvR; rw [ed]
    rw [edv] at FD
    unfold parB at h4
    rw [ed] at h4
    have hbd : ∀ (kV doc pm : Value) (an : Option Addr) (cdv ct : Value) (us : List Value), us.length = (parOf (stR P r)).length → bindArgs (PySem.W.fnOf r.x (qualR r) (defArgs (stR P r)) (defBody (stR P r)) (defScope (stR P r)) .none kV doc pm an cdv ct) ⟨us, []⟩ = pure ((parOf (stR P r)).zip us) := by
      obtain ⟨args, kd, ea⟩ := plain_of h4
      intro kV doc pm an cdv ct us hl
      unfold parOf at ndP hl ⊢
      rw [ea] at ndP hl ⊢
      exact bind_eq ndP hl
    exact ⟨h3, FD.bindsN hbd, fun _ => FD.bindsA hbd⟩
theorem kn_ok (F : Facts P w K mg rs T) : KnOk K (prOf rs T K).oc := by
  refine ⟨fun c fs ⟨p, hp, e1, e2⟩ => ?_, fun c fs ⟨p, hp, e1, e2⟩ f hf => ?_, fun c fs ⟨p, hp, e1, e2⟩ => ?_⟩
  · subst e1; exact (F.ocl p hp).1
  · subst e1 e2
    obtain ⟨q, hq, rfl⟩ := List.mem_map.mp hf
    exact (F.ocl p hp).2.1 q hq
  · subst e2
    have z := F.inip p hp
    unfold iniP at z
    simp only [Bool.and_eq_true, decide_eq_true_eq] at z
    rw [List.length_map]
    exact z.1.1.1.2
theorem mk_ok (F : Facts P w K mg rs T) {p : Str × List (Str × Fi)} (hp : p ∈ T.ocl) : ∃ (f : Addr) (fd : FuncData) (ps : List Str), Mk K ((prOf rs T K).oc.at_ p.1) f ∧ FnOk P w K mg base (L2.CX P w) 1 f fd ps (spIni K p.2 ps.length) ∧ Binds K fd ps [] ∧ mg p.1 = some (.ref ((prOf rs T K).oc.at_ p.1)) ∧ (prOf rs T K).oc.kn p.1 (p.2.map (·.1)) ∧ ps.length = nPar p.2 + 1 := by
  obtain ⟨q1, q2, q3, q4, fd, FD⟩ := F.ocl p hp
  have z := F.inip p hp
  unfold iniP at z
  simp only [Bool.and_eq_true, decide_eq_true_eq] at z
  obtain ⟨⟨⟨⟨⟨⟨⟨⟨z1, z2⟩, z3⟩, z4⟩, z5⟩, z6⟩, z7⟩, z8⟩, z9⟩ := z
  have S := scope_of z2
  refine ⟨_, fd, "self" :: (parI P p).toList, q3, ini_fn FD S z1 (locB_ok z3) (fun y hy => ?_) z5 z6, ?_, q4, ⟨p, hp, rfl, rfl⟩, by rw [List.length_cons, z9]⟩
  · rw [hy] at z4
    simp only [Bool.and_eq_true] at z4
    exact ⟨locB_ok z4.1, z4.2⟩
  · refine FD.bindsN fun kV doc pm an cdv ct us hl => ?_
    obtain ⟨args, kd, ea⟩ := plain_of z8
    rw [← z7] at hl ⊢
    have nd : (parOf (initSt P p.1)).Nodup := by rw [z7]; exact S.nd
    unfold parOf at hl nd ⊢
    rw [ea] at hl nd ⊢
    exact bind_eq nd hl
theorem pay_ok (F : Facts P w K mg rs T) {p : Str × XC} (hp : p ∈ T.exp) : ∃ (Ca fI : Addr) (fd : FuncData), (prOf rs T K).cls p.2 = .ref Ca ∧ OexC K Ca ∧ PySem.W.findIn K (.ref Ca) (xf p.2) = some none ∧ mg p.1 = some (.ref Ca) ∧ PySem.W.findIn K (.ref Ca) "__init__" = some (some (.ref fI)) ∧
    PySem.W.typeIn K (.ref fI) = some (.type "function") ∧ FnOk P w K mg base (L2.CX P w) 1 fI fd ["self", xf p.2] (spI K (xf p.2)) ∧ Binds K fd ["self", xf p.2] [] := by
  have hm : p ∈ allE T := List.mem_append_right _ hp
  obtain ⟨g1, _, g3, _⟩ := F.one p hm
  obtain ⟨q1, q2, q3, q4, q5, fd, FD⟩ := F.pay p hp
  have pp := F.payp p hp
  unfold payP at pp
  simp only [Bool.and_eq_true, decide_eq_true_eq] at pp
  obtain ⟨⟨⟨⟨⟨⟨⟨p1, p2⟩, p3⟩, p4⟩, p5⟩, p6⟩, p7⟩, p8⟩ := pp
  have S := scope_of p2
  refine ⟨_, _, fd, F.cls p hm, q1, g3, g1, q2, q3, init_ok FD S p1 (locB_ok p3) (locB_ok p4) p5 (gloB_ok p6) q4 (by decide) q5, ?_⟩
  refine FD.bindsN fun kV doc pm an cdv ct us hl => ?_
  obtain ⟨args, kd, ea⟩ := plain_of p8
  unfold parOf at p7
  rw [ea] at p7 ⊢
  rw [← p7] at hl ⊢
  refine bind_eq ?_ hl
  have nd := S.nd
  rw [← p7] at nd
  exact nd
/-- what a row's def promises at level n -/
noncomputable def spR (rs : List Row) (T : St0) (K : PySem.W.Frag) (n : Nat) (r : Row) (np : Nat) : Sp := if r.ob then (if isL T r.f then spL (prOf rs T K) K n r.f np else spM (prOf rs T K) K n r.f np) else spF (prOf rs T K) K n r.f np
theorem ob_of (h : rs.find? (fun q => q.f == r.f) = some r) : isMR rs r.f = r.ob := by unfold isMR; rw [h]
theorem good_of (F : Facts P w K mg rs T) (n : Nat) (ih : ∀ r ∈ rs, rs.find? (fun q => q.f == r.f) = some r → ∀ fd, FunD K r.x (qualR r) (defArgs (stR P r)) (defBody (stR P r)) (defScope (stR P r)) (dvR T r) [] (adR K r) fd → FnOk P w K mg base (L2.CX P w) (n + 4) (adR K r) fd (parOf (stR P r)) (spR rs T K n r (parOf (stR P r)).length))
    {N : List Str} {qual : Str} {sc : Scope} {ps : List Str} {f : Addr} {cdv : Value} {A : Around} {outer : List Env} {s : Shared} {H : Hp} {E : XK} (S : FnScope N ps sc) (room : Room (n + 4) (A.deeper (envOfC qual sc s.heap.objs.size f cdv))) :
    GoodS ⟨prOf rs T K, n, K, fun cls d _ H => E cls d H, fun _ _ _ => False⟩ (cxOf (L2.CX P w) P w K mg base N qual sc f cdv A outer s H E) T sc N := by
  have tk : Takes (cxOf (L2.CX P w) P w K mg base N qual sc f cdv A outer s H E) (fun cls d _ H => E cls d H) := takes_of rfl rfl rfl rfl
  have ou := F.obu
  unfold objU at ou
  simp only [Bool.and_eq_true] at ou
  obtain ⟨⟨⟨⟨o1, o2⟩, o3⟩, o4⟩, o5⟩ := ou
  have ln := F.lnu
  unfold lntU at ln
  simp only [Bool.and_eq_true] at ln
  have get : ∀ {g : Nat} {fn : Fn}, T.tab g = some fn → ∃ r, r ∈ rs ∧ rs.find? (fun q => q.f == g) = some r ∧ r.f = g ∧ r.fn = fn ∧ nameR rs g = r.x := fun {g fn} h => by
    rw [F.tab] at h
    unfold tabR at h
    cases e : rs.find? fun r => r.f == g with
    | none => rw [e] at h; cases h
    | some r =>
      rw [e] at h
      cases h
      exact ⟨r, List.mem_of_find?_eq_some e, rfl, by simpa using List.find?_some e, rfl, by unfold nameR; rw [e]⟩
  exact
        { K := rfl, sc := rfl, N := rfl, nd := S.nd, calm := fun _ => rfl, room := fun _ => room, un := by have := room.un; show (A.deeper _).units + 200 < _; omega, pass := fun _ σ => passAt tk σ, tab := F.tab.symm, name := F.name.symm,
          fns := fun g fn h hm => by
            obtain ⟨r', hr', ef, rfl, rfl, hx'⟩ := get h
            obtain ⟨fd', FD'⟩ := F.defs r' hr'
            obtain ⟨b1, b2, _⟩ := row_binds F hr' FD'
            have hob : r'.ob = false := by rw [F.isM, ob_of ef] at hm; exact hm
            have hc : r'.c = none := by
              have := List.all_eq_true.mp o4 r' hr'
              rw [hob, Bool.false_or] at this
              exact beq_iff_eq.mp this
            have q := ih r' hr' ef fd' FD'
            unfold spR at q
            rw [hob] at q
            have ead : adR K r' = He.ga K r'.x := by unfold adR; rw [hc]
            exact ⟨_, fd', _, b1, q, by rw [ead]; exact (congrArg mg hx').trans (F.glo r' hr' hc), FD'.kp, b2⟩
          dfl := fun p hp fn h => by
            obtain ⟨r', hr', ef, ep, rfl, hx'⟩ := get h
            have z := List.all_eq_true.mp o5 p hp
            rw [ef] at z
            simp only [Bool.and_eq_true, beq_iff_eq, Bool.not_eq_true', decide_eq_true_eq] at z
            obtain ⟨⟨⟨z1, z2⟩, z3⟩, z4⟩ := z
            obtain ⟨fd', FD'⟩ := F.defs r' hr'
            obtain ⟨b1, b2, _⟩ := row_binds F hr' FD'
            have hrow := F.rows r' hr'
            unfold rowB at hrow
            simp only [Bool.and_eq_true, decide_eq_true_eq] at hrow
            have h4 := hrow.1.1.2
            obtain ⟨_, c2, c3⟩ := row_dfl (p := p.2) z3 h4 FD'
            have q := ih r' hr' (by rw [ep]; exact ef) fd' FD'
            unfold spR at q
            rw [z2, if_neg (by decide), ep] at q
            have ead : adR K r' = He.ga K r'.x := by unfold adR; rw [z1]
            exact ⟨_, fd', _, b1, q, by rw [ead]; exact (congrArg mg hx').trans (F.glo r' hr' z1), FD'.kp, c2, by rw [z4]; exact c3⟩
          kno := kn_ok F
          mts := fun p hp fn h => by
            obtain ⟨r', hr', ef, ep, rfl, hx'⟩ := get h
            have z := List.all_eq_true.mp o1 p hp
            rw [ef] at z
            simp only [Bool.and_eq_true, beq_iff_eq] at z
            obtain ⟨⟨⟨z1, z2⟩, z3⟩, _⟩ := z
            obtain ⟨fd', FD'⟩ := F.defs r' hr'
            obtain ⟨b1, b2, _⟩ := row_binds F hr' FD'
            have q := ih r' hr' (by rw [ep]; exact ef) fd' FD'
            unfold spR at q
            have hL : isL T r'.f = false := by rw [ep]; simpa using List.all_eq_true.mp ln.1.1 p hp
            rw [z3, if_pos rfl, hL, if_neg (by decide), ep] at q
            have ead : adR K r' = He.ma K (He.ga K p.2.1) r'.x := by unfold adR; rw [z1]
            exact ⟨_, fd', _, b1, q, by rw [ead, ← z2]; exact F.mth r' hr' _ z1, b2⟩
          ofn := fun p hp fn h => by
            obtain ⟨r', hr', ef, ep, rfl, hx'⟩ := get h
            have z := List.all_eq_true.mp o2 p hp
            rw [ef] at z
            simp only [Bool.and_eq_true, beq_iff_eq] at z
            obtain ⟨⟨z1, z2⟩, z3⟩ := z
            obtain ⟨fd', FD'⟩ := F.defs r' hr'
            obtain ⟨b1, b2, _⟩ := row_binds F hr' FD'
            have q := ih r' hr' (by rw [ep]; exact ef) fd' FD'
            unfold spR at q
            have hL : isL T r'.f = false := by rw [ep]; simpa using List.all_eq_true.mp ln.1.2 p hp
            rw [z3, if_pos rfl, hL, if_neg (by decide), ep] at q
            have ead : adR K r' = He.ga K r'.x := by unfold adR; rw [z1]
            exact ⟨_, fd', _, b1, q, ⟨by rw [ead, ← z2]; exact F.glo r' hr' z1, FD'.kp⟩, b2⟩
          lfn := fun p hp fn h => by
            obtain ⟨r', hr', ef, ep, rfl, hx'⟩ := get h
            have z := List.all_eq_true.mp ln.2 p hp
            rw [ef] at z
            simp only [Bool.and_eq_true, beq_iff_eq] at z
            obtain ⟨⟨z1, z2⟩, z3⟩ := z
            obtain ⟨fd', FD'⟩ := F.defs r' hr'
            obtain ⟨b1, b2, _⟩ := row_binds F hr' FD'
            have q := ih r' hr' (by rw [ep]; exact ef) fd' FD'
            unfold spR at q
            have hL : isL T r'.f = true := by rw [ep]; exact List.any_eq_true.mpr ⟨p, hp, by simp⟩
            rw [z3, if_pos rfl, hL, if_pos rfl, ep] at q
            have ead : adR K r' = He.ga K r'.x := by unfold adR; rw [z1]
            exact ⟨_, fd', _, b1, q, ⟨by rw [ead, ← z2]; exact F.glo r' hr' z1, FD'.kp⟩, b2⟩
          ocl := fun p hp => ⟨mk_ok F hp⟩
          top := fun _ _ => ⟨rfl, rfl, tk⟩
          blt := F.blt, cst := F.cst, own := passes_of rfl, fn := fun _ => rfl, tk := tk, stk := rfl, frm := rfl, kfn := S.kind, exc := F.exn,
          dct := fun p hp => ⟨_, (F.dct p hp).1, (F.dct p hp).2⟩
          dcv := fun p hp a ha => by
            have e := (F.dcv p hp).1
            have ha : mg p.1 = some (.ref a) := ha
            rw [ha] at e
            cases e
            exact (F.dcv p hp).2
          dcf := fun p hp a ha q hq => by
            have e := (F.dcf p hp).1
            have ha : mg p.1 = some (.ref a) := ha
            rw [ha] at e
            cases e
            obtain ⟨fn, y1, y2, y3⟩ := (F.dcf p hp).2 q hq
            exact ⟨fn, _, by rw [F.tab]; exact y1, y2, y3⟩
          hx := fun _ _ _ z => z.elim, cold := fun _ _ _ _ z => z,
          knd := fun p hp => ⟨⟨p, hp, rfl⟩, _, F.cls p hp, (F.one p hp).1⟩
          kit := fun c c' Ca ⟨p, hp, e1⟩ ⟨q, hq, e2⟩ ec => by
            subst e1 e2
            have e1 := F.cls p hp
            rw [show (prOf rs T K).cls p.2 = .ref Ca from ec] at e1
            cases e1
            show PySem.W.kitOne K _ ((prOf rs T K).cls q.2) = _
            rw [F.cls q hq]
            exact (F.two p hp q hq).2
          kitV := fun c Ca ⟨p, hp, e1⟩ ec => by
            subst e1
            have e1 := F.cls p hp
            rw [show (prOf rs T K).cls p.2 = .ref Ca from ec] at e1
            cases e1
            exact (F.one p hp).2.2.2
          fno := fun c Ca ⟨p, hp, e1⟩ ec => by
            subst e1
            have e1 := F.cls p hp
            rw [show (prOf rs T K).cls p.2 = .ref Ca from ec] at e1
            cases e1
            exact (F.one p hp).2.2.1
          pay := fun p hp => ⟨pay_ok F hp⟩
          exm := fun c c' ⟨p, hp, e1⟩ ⟨q, hq, e2⟩ => by
            subst e1 e2
            show PySem.W.exmOne K ((prOf rs T K).cls p.2) ((prOf rs T K).cls q.2) = _
            rw [F.cls p hp, F.cls q hq]
            exact (F.two p hp q hq).1
          xcl := fun c ⟨p, hp, e1⟩ => by
            subst e1
            exact ⟨_, F.cls p hp, (F.one p hp).2.1⟩ }
theorem fn_ok (F : Facts P w K mg rs T) : ∀ (n : Nat) (r : Row), r ∈ rs → rs.find? (fun q => q.f == r.f) = some r → ∀ fd, FunD K r.x (qualR r) (defArgs (stR P r)) (defBody (stR P r)) (defScope (stR P r)) (dvR T r) [] (adR K r) fd →
    FnOk P w K mg base (L2.CX P w) (n + 4) (adR K r) fd (parOf (stR P r)) (spR rs T K n r (parOf (stR P r)).length)
  | n, r, hr, hfd, fd, FD => by
    have hrow := F.rows r hr
    unfold rowB at hrow
    simp only [Bool.and_eq_true, decide_eq_true_eq] at hrow
    obtain ⟨⟨⟨⟨⟨h1, h2⟩, h3⟩, h4⟩, h5⟩, h6⟩ := hrow
    have S := scope_of h1
    have h : tabR rs r.f = some r.fn := by unfold tabR; rw [hfd]; rfl
    cases n with
    | zero =>
      unfold spR
      split
      · split
        · exact ⟨fun vs H Q E q => q.1, fun A outer s H args us vs Q E _ _ _ _ q => by
            obtain ⟨_, _, _, _, _, _, _, _, _, _, _, _, _, z⟩ := q
            exact z.elim⟩
        · exact ⟨fun vs H Q E q => q.1, fun A outer s H args us vs Q E _ _ _ _ q => by
            obtain ⟨_, _, _, _, _, _, _, _, _, _, z⟩ := q
            exact z.elim⟩
      · exact ⟨fun vs H Q E q => q.1, fun A outer s H args us vs Q E _ _ _ _ q => by
          obtain ⟨_, ω, ds, _, _, z⟩ := q
          exact z.elim⟩
    | succ n =>
      have ih : ∀ r ∈ rs, rs.find? (fun q => q.f == r.f) = some r → ∀ fd, FunD K r.x (qualR r) (defArgs (stR P r)) (defBody (stR P r)) (defScope (stR P r)) (dvR T r) [] (adR K r) fd → FnOk P w K mg base (L2.CX P w) (n + 4) (adR K r) fd (parOf (stR P r)) (spR rs T K n r (parOf (stR P r)).length) := fun r' hr' hf' fd' FD' => fn_ok F n r' hr' hf' fd' FD'
      unfold spR
      cases hob : r.ob with
      | true =>
        rw [if_pos rfl]
        rw [hob] at h6
        simp only [Bool.not_true, Bool.false_or, decide_eq_true_eq] at h6
        cases hL : isL T r.f with
        | true =>
          rw [if_pos rfl]
          refine FD.ok (k := n + 4) (CX := L2.CX P w) S (fun vs H Q E q => q.1) fun cdv A outer s H vs Q E room q => ?_
          obtain ⟨hl, a, v0, v2, ω, ds, d0, d2, rfl, hd, la, hq0, hq2, hp⟩ := q
          let C : C0 := ⟨prOf rs T K, n, K, fun cls d _ H => E cls d H, fun _ _ _ => False⟩
          have g : GoodS C (cxOf (L2.CX P w) P w K mg base r.N (qualR r) (defScope (stR P r)) (adR K r) cdv A outer s H E) T (defScope (stR P r)) r.N := good_of F n ih S room
          have ps := sSs r.fn.body (defBody (stR P r)) T (defScope (stR P r)) r.N C _ g h5
          have enp : r.fn.np = 3 := by rw [← h3, ← hl]; rfl
          refine ⟨_, ps, ⟨H, ω, some a⟩, ω, _, rel_startL (n := C.n) hd la hq0 hq2 h2 (by rw [← enp, ← h3, ← h2]; exact ns_len S), ?_⟩
          have hp : PostL (prOf rs T K) K (n + 1) a ω H (runL (callN (tabR rs) n) r.fn d0 ds d2) Q E := by
            have e : (callN (tabR rs) (n + 1)).l r.f d0 ds d2 = runL (callN (tabR rs) n) r.fn d0 ds d2 := by
              show (match tabR rs r.f with | some fn => runL (callN (tabR rs) n) fn d0 ds d2 | none => none) = _
              rw [h]
            exact e ▸ hp
          unfold runL at hp
          rw [if_pos enp] at hp
          show PostS C ⟨H, ω, some a⟩ ω H (exSs (callN (tabR rs) n) r.fn.body _) _
          revert hp
          generalize exSs (callN (tabR rs) n) r.fn.body _ = res
          intro hp
          have at1 : ∀ {ω' : Om} {σ' : L2.St} {H' : Hp} {c : Cfg} {ds' : List D}, Rel C.n C.K ⟨H, ω, some a⟩ ω' σ' H' c → getT c = some ds' → LAt K ω' H' a ds' := fun {ω' σ' H' c ds'} R e => by
            unfold getT at e
            split at e
            · rename_i e1
              cases e
              obtain ⟨a', _, gg, la'⟩ := R.slot 1 _ e1
              rcases gg with ⟨gg, _⟩ | ⟨_, gg⟩
              · cases gg; exact la'
              · cases gg
            · cases e
          match res, hp with
          | .no, hp => exact hp
          | .ex x c, hp =>
            simp only [finL] at hp
            cases eo : getT c with
            | none => rw [eo] at hp; exact hp.elim
            | some o' => rw [eo] at hp; exact fun ω' σ' H' d sm R q => hp ω' H' d R.stp R.okp (at1 R eo) q
          | .ok .nx c, hp =>
            simp only [finL] at hp
            cases eo : getT c with
            | none => rw [eo] at hp; exact hp.elim
            | some o' => rw [eo] at hp; exact fun ω' σ' H' sm R => hp ω' H' .non R.stp R.okp (at1 R eo) .non
          | .ok .bk c, hp => exact hp.elim
          | .ok .ct c, hp => exact hp.elim
          | .ok (.rt (.val d)) c, hp =>
            simp only [finL] at hp
            cases eo : getT c with
            | none => rw [eo] at hp; exact hp.elim
            | some o' => rw [eo] at hp; exact fun ω' σ' H' v sm R q => hp ω' H' v R.stp R.okp (at1 R eo) q
          | .ok (.rt (.own d)) c, hp =>
            simp only [finL] at hp
            cases eo : getT c with
            | none => rw [eo] at hp; exact hp.elim
            | some o' => rw [eo] at hp; exact fun ω' σ' H' v sm R q => hp ω' H' v R.stp R.okp (at1 R eo) q
          | .ok (.rt (.exc _ _)) c, hp => exact hp.elim
          | .ok (.rt (.obj _)) c, hp => exact hp.elim
          | .ok (.rt (.lnt _ _)) c, hp => exact hp.elim
        | false =>
        rw [if_neg (by decide)]
        refine FD.ok (k := n + 4) (CX := L2.CX P w) S (fun vs H Q E q => q.1) fun cdv A outer s H vs Q E room q => ?_
        obtain ⟨hl, a, us, ω, o, ds, rfl, hd, oa, hq, hp⟩ := q
        have el := dps_len hq
        let C : C0 := ⟨prOf rs T K, n, K, fun cls d _ H => E cls d H, fun _ _ _ => False⟩
        have g : GoodS C (cxOf (L2.CX P w) P w K mg base r.N (qualR r) (defScope (stR P r)) (adR K r) cdv A outer s H E) T (defScope (stR P r)) r.N := good_of F n ih S room
        have ps := sSs r.fn.body (defBody (stR P r)) T (defScope (stR P r)) r.N C _ g h5
        have enp : ds.length + 1 = r.fn.np := by rw [← el, ← List.length_cons (a := V.ref a), hl]; exact h3
        refine ⟨_, ps, ⟨H, ω, some a⟩, ω, _, rel_startM (n := C.n) hd oa hq h2 (by rw [enp, ← h3, ← h2]; exact ns_len S), ?_⟩
        have hp : PostM (prOf rs T K) K (n + 1) a ω H (runM (callN (tabR rs) n) r.fn o ds) Q E := by
          have e : (callN (tabR rs) (n + 1)).m r.f o ds = runM (callN (tabR rs) n) r.fn o ds := by
            show (match tabR rs r.f with | some fn => runM (callN (tabR rs) n) fn o ds | none => none) = _
            rw [h]
          exact e ▸ hp
        unfold runM at hp
        rw [if_pos enp] at hp
        rw [enp]
        show PostS C ⟨H, ω, some a⟩ ω H (exSs (callN (tabR rs) n) r.fn.body _) _
        revert hp
        generalize exSs (callN (tabR rs) n) r.fn.body _ = res
        intro hp
        have at0 : ∀ {ω' : Om} {σ' : L2.St} {H' : Hp} {c : Cfg} {o' : Ob}, Rel C.n C.K ⟨H, ω, some a⟩ ω' σ' H' c → getO c 0 = some o' → OAt (prOf rs T K).oc K ω' H' a o' := fun {ω' σ' H' c o'} R e => by
          obtain ⟨a', _, gg, oa'⟩ := R.slot 0 _ (getO_get e)
          rcases gg with ⟨gg, _⟩ | ⟨_, gg⟩
          · cases gg; exact oa'
          · exact absurd rfl gg
        match res, hp with
        | .no, hp => exact hp
        | .ex x c, hp =>
          simp only [finM] at hp
          cases eo : getO c 0 with
          | none => rw [eo] at hp; exact hp.elim
          | some o' => rw [eo] at hp; exact fun ω' σ' H' d sm R q => hp ω' H' d R.stp R.okp (at0 R eo) q
        | .ok .nx c, hp =>
          simp only [finM] at hp
          cases eo : getO c 0 with
          | none => rw [eo] at hp; exact hp.elim
          | some o' => rw [eo] at hp; exact fun ω' σ' H' sm R => hp ω' H' .non R.stp R.okp (at0 R eo) .non
        | .ok .bk c, hp => exact hp.elim
        | .ok .ct c, hp => exact hp.elim
        | .ok (.rt (.val d)) c, hp =>
          simp only [finM] at hp
          cases eo : getO c 0 with
          | none => rw [eo] at hp; exact hp.elim
          | some o' => rw [eo] at hp; exact fun ω' σ' H' v sm R q => hp ω' H' v R.stp R.okp (at0 R eo) q
        | .ok (.rt (.own d)) c, hp =>
          simp only [finM] at hp
          cases eo : getO c 0 with
          | none => rw [eo] at hp; exact hp.elim
          | some o' => rw [eo] at hp; exact fun ω' σ' H' v sm R q => hp ω' H' v R.stp R.okp (at0 R eo) q
        | .ok (.rt (.exc _ _)) c, hp => exact hp.elim
        | .ok (.rt (.obj _)) c, hp => exact hp.elim
        | .ok (.rt (.lnt _ _)) c, hp => exact hp.elim
      | false =>
        rw [if_neg (by decide)]
        refine FD.ok (k := n + 4) (CX := L2.CX P w) S (fun vs H Q E q => q.1) fun cdv A outer s H vs Q E room q => ?_
        obtain ⟨hl, ω, ds, hd, hq, hp⟩ := q
        have el := dps_len hq
        let C : C0 := ⟨prOf rs T K, n, K, fun cls d _ H => E cls d H, fun _ _ _ => False⟩
        have g : GoodS C (cxOf (L2.CX P w) P w K mg base r.N (qualR r) (defScope (stR P r)) (adR K r) cdv A outer s H E) T (defScope (stR P r)) r.N := good_of F n ih S room
        have ps := sSs r.fn.body (defBody (stR P r)) T (defScope (stR P r)) r.N C _ g h5
        refine ⟨_, ps, ⟨H, ω, none⟩, ω, _, rel_start hd hq h2 (by rw [← el, hl, ← h2]; exact ns_len S), ?_⟩
        have hp : PostF (prOf rs T K) K (n + 1) ω H (runF (callN (tabR rs) n) r.fn ds) Q E := by
          have e : (callN (tabR rs) (n + 1)).f r.f ds = runF (callN (tabR rs) n) r.fn ds := by
            show (match tabR rs r.f with | some fn => runF (callN (tabR rs) n) fn ds | none => none) = _
            rw [h]
          exact e ▸ hp
        unfold runF at hp
        have enp : ds.length = r.fn.np := by rw [← el, hl]; exact h3
        rw [if_pos enp] at hp
        rw [enp]
        show PostS C ⟨H, ω, none⟩ ω H (exSs (callN (tabR rs) n) r.fn.body _) _
        revert hp
        generalize exSs (callN (tabR rs) n) r.fn.body _ = res
        intro hp
        match res, hp with
        | .no, hp => exact hp
        | .ex x c, hp => exact fun ω' σ' H' d sm R q => hp ω' H' d R.stp R.okp q
        | .ok .nx c, hp => exact fun ω' σ' H' sm R => hp ω' H' .non R.stp R.okp .non
        | .ok .bk c, hp => exact hp.elim
        | .ok .ct c, hp => exact hp.elim
        | .ok (.rt (.val d)) c, hp => exact fun ω' σ' H' v sm R q => hp ω' H' v R.stp R.okp q
        | .ok (.rt (.own d)) c, hp => exact fun ω' σ' H' v sm R q => hp ω' H' v R.stp R.okp q
        | .ok (.rt (.exc _ _)) c, hp => exact hp.elim
        | .ok (.rt (.obj _)) c, hp => exact hp.elim
        | .ok (.rt (.lnt _ _)) c, hp => exact hp.elim
/-- each class stands once -/
noncomputable def exnU (P : Program) (T : St0) : Bool := !T.hot && T.exp.all (payP P) && (allE T).all fun p => match (allE T).find? fun q => q.2 == p.2 with
  | some q => q.1 == p.1
  | none => false
theorem facts_of (X : K.In h) (G : h.Ns mainGlobals mg) (c : SaysR P rs T w K) (hrows : rs.all (rowB P T) = true) (hu : exnU P T = true) (ho : objU rs T = true) (hi : T.ocl.all (iniP P) = true) (hln : lntU rs T = true) (htab : T.tab = tabR rs) (hname : T.name = nameR rs) (hisM : T.isM = isMR rs) : Facts P w K mg rs T := by
  have m := c.m
  unfold moreB at m
  simp only [Bool.and_eq_true] at m
  obtain ⟨⟨⟨⟨⟨⟨⟨m1, m2⟩, m3⟩, m4⟩, m5⟩, m6⟩, m7⟩, m8⟩ := m
  unfold dctB at m7
  simp only [Bool.and_eq_true] at m7
  obtain ⟨⟨⟨⟨c1, c2⟩, c3⟩, c4⟩, c5⟩ := m7
  have gd : ∀ {x : Str} {l : List (Str × List Str)}, (l.any fun q => q.1 == x) = true → (l.all (fun p => (He.Fa.glo p.1).ok K)) = true → mg x = some (.ref (He.ga K x)) := fun {x l} h1 h2 => by
    obtain ⟨q, hq, e⟩ := List.any_eq_true.mp h1
    have := He.glo_ok X G (List.all_eq_true.mp h2 q hq)
    rw [beq_iff_eq.mp e] at this
    exact this
  unfold errB at m6
  simp only [Bool.and_eq_true] at m6
  obtain ⟨⟨o1, o2⟩, o3⟩ := m6
  unfold exnU at hu
  simp only [Bool.and_eq_true, Bool.not_eq_true'] at hu
  obtain ⟨⟨u1, u2⟩, hu⟩ := hu
  have hcls : ∀ p ∈ allE T, (prOf rs T K).cls p.2 = .ref (He.ga K p.1) := fun p hp => by
    have u := List.all_eq_true.mp hu p hp
    show Value.ref (He.ga K (((allE T).find? fun q => q.2 == p.2).elim ⟨#[]⟩ (·.1))) = _
    cases ef : (allE T).find? fun q => q.2 == p.2 with
    | none => rw [ef] at u; cases u
    | some z =>
      rw [ef] at u
      have u : z.1 = p.1 := by simpa using u
      show Value.ref (He.ga K z.1) = _
      rw [u]
  refine ⟨fun r hr => List.all_eq_true.mp hrows r hr, fun r hr => ?_, fun r hr hc => ?_, fun r hr c' hc => ?_, ho, hisM, hln, fun p hp => List.all_eq_true.mp hi p hp, fun p hp => ?_, fun x hx => He.free_ok X G (List.all_eq_true.mp m4 x hx), fun p hp => ?_, fun p hp => ?_, htab, hname, u1, fun p hp => ?_, fun p hp => ?_, fun p hp => ?_, hcls, fun p hp => ?_, fun p hp q hq => ?_, fun p hp => List.all_eq_true.mp u2 p hp, fun p hp => ?_⟩
  · obtain ⟨i, hi, e⟩ := List.mem_iff_getElem.mp hr
    have q := c.d.def_ i (d := defD P T r) (by rw [List.getElem?_append_left (by simp; omega), List.getElem?_append_left (by simpa using hi), List.getElem?_map, List.getElem?_eq_getElem hi, e]; rfl)
    have ea : He.fAd K (defD P T r).at_ = adR K r := by
      unfold defD adR
      cases r.c <;> rfl
    rw [ea, defD_dvs] at q
    exact q
  · have q := List.all_eq_true.mp m5 r hr
    unfold rowK at q
    rw [hc] at q
    exact He.glo_ok X G q
  · have q := List.all_eq_true.mp m5 r hr
    unfold rowK at q
    rw [hc] at q
    exact He.meth_ok q
  · have q := List.all_eq_true.mp m8 p hp
    unfold oclK at q
    simp only [Bool.and_eq_true] at q
    obtain ⟨⟨⟨q1, q2⟩, q3⟩, q4⟩ := q
    obtain ⟨i, hi, e⟩ := List.mem_iff_getElem.mp hp
    have fd := c.d.def_ (rs.length + T.exp.length + i) (d := defI P p) (by rw [List.getElem?_append_right (by simp), List.getElem?_map]; simp [List.getElem?_eq_getElem hi, e])
    exact ⟨He.cls_ok q1, fun z hz => He.noat_ok (List.all_eq_true.mp q2 z hz), He.mkr_ok q3, He.glo_ok X G q4, fd⟩
  · have q := List.all_eq_true.mp m2 p hp
    unfold cstB at q
    split at q
    · rename_i u eu
      obtain ⟨v, r, k⟩ := datK_ok _ _ q
      exact ⟨u, v, PySem.W.mg_of X G eu, r, k⟩
    · cases q
  · have q := List.all_eq_true.mp m3 p hp
    unfold exnB at q
    simp only [Bool.and_eq_true] at q
    obtain ⟨e1, e2, e3, e4⟩ := He.exc_ok q.1
    have ec := hcls p (List.mem_append_left _ hp)
    exact ⟨_, _, _, _, _, ec, PySem.F.excBase_ValueError, e1, He.glo_ok X G q.2, e2, by rw [ec]; exact e3, by rw [ec]; exact e4⟩
  · refine ⟨He.glo_ok X G (List.all_eq_true.mp c1 p hp), ?_⟩
    have ck := c.k
    obtain ⟨i, hi, e⟩ := List.mem_iff_getElem.mp hp
    have z := congrArg (fun l => l[i]?) ck
    simp only [List.getElem?_map, List.getElem?_eq_getElem hi, e, Option.map_some, Option.some.injEq] at z
    obtain ⟨es, n, kd⟩ := He.dicW_ok z
    refine ⟨es, n, kd, ?_⟩
    unfold He.dicW at z
    rw [kd.at_] at z
    have low := kd.low
    simp only [low] at z
    simpa using z
  · refine ⟨gd (List.all_eq_true.mp c4 p hp) c1, fun q hq => ?_⟩
    have y := List.all_eq_true.mp (List.all_eq_true.mp c2 p hp) q hq
    split at y
    · rename_i u eu
      obtain ⟨v, r, k⟩ := datK_ok _ _ y
      exact ⟨u, v, eu, r, k⟩
    · cases y
  · refine ⟨gd (List.all_eq_true.mp c5 p hp) c1, fun q hq => ?_⟩
    have y := List.all_eq_true.mp (List.all_eq_true.mp c3 p hp) q hq
    simp only [Bool.and_eq_true, decide_eq_true_eq] at y
    obtain ⟨⟨y1, y2⟩, y3⟩ := y
    obtain ⟨fn, hf⟩ := Option.isSome_iff_exists.mp y1
    exact ⟨fn, hf, y2, He.glo_ok X G y3⟩
  · have q := List.all_eq_true.mp o1 p hp
    unfold oneB at q
    simp only [Bool.and_eq_true, decide_eq_true_eq] at q
    obtain ⟨⟨⟨q1, q2⟩, q3⟩, q4⟩ := q
    exact ⟨He.glo_ok X G q1, xclsB_ok q2, q3, q4⟩
  · have z := List.all_eq_true.mp (List.all_eq_true.mp o2 p hp) q hq
    unfold twoB at z
    simp only [Bool.and_eq_true, decide_eq_true_eq] at z
    exact z
  · have q := List.all_eq_true.mp o3 p hp
    unfold payK at q
    simp only [Bool.and_eq_true, decide_eq_true_eq] at q
    obtain ⟨⟨⟨⟨⟨⟨⟨⟨q1, q2⟩, q3⟩, q4⟩, q5⟩, q6⟩, q7⟩, q8⟩, q9⟩ := q
    have mk := He.meth_ok q6
    obtain ⟨i, hi, e⟩ := List.mem_iff_getElem.mp hp
    have fd := c.d.def_ (rs.length + i) (d := defX P p) (by rw [List.getElem?_append_left (by simp; omega), List.getElem?_append_right (by simp), List.getElem?_map]; simp [List.getElem?_eq_getElem hi, e])
    exact ⟨⟨oexB_ok q1, q2, q3, q4, q5⟩, He.eqO_ok (He.ba q6).1, q7, He.glo_ok X G q8, binitB_ok q9, fd⟩
theorem lk_mem {a : Addr} {o : Obj} : ∀ {l : List (Addr × Obj)}, l.lookup a = some o → (a, o) ∈ l
  | [], h => by cases h
  | (b, u) :: r, h => by
    rw [List.lookup_cons] at h
    cases q : a == b with
    | true =>
      rw [q] at h
      cases h
      rw [beq_iff_eq.mp q]
      exact List.mem_cons_self
    | false =>
      rw [q] at h
      exact List.mem_cons_of_mem _ (lk_mem h)
theorem sql_rd {H : Hp} {a : Addr} {xs : List V} (hn : noLst K = true) (h : SqL K H a xs) : Rd H a (.lst xs) := by
  rcases h with h | ⟨o, its, n, e, e1, _⟩
  · exact h
  · have q := List.all_eq_true.mp hn (a, o) (lk_mem e)
    rw [e1] at q
    cases q
theorem ints_dq {H : Hp} : ∀ (ns : List Int), DqAll K H (ns.map V.int) (ns.map PyData.int)
  | [] => .nil
  | n :: ns => .cons (.int n) (ints_dq ns)
end
/-- THE END: a law by its mini program -/
theorem end_of {l : PySem.W.OpenLaw} {m k nl f : Nat} {q : Program} {loose : List Str} {XP : (Str → Option Value) → Heap → Prop} {d : DefRec} {x : Str} {rs : List Row} {T : St0} {r : Row} (hn : l.most = some nl) (hn2 : nl ≤ sizeLine) (hdf : d.params.defaults = []) (hr : Room (k + 4) callerA)
    (hrows : rs.all (rowB l.prog T) = true) (hu : exnU l.prog T = true) (ho : objU rs T = true) (hi : T.ocl.all (iniP l.prog) = true) (hln : lntU rs T = true) (htab : T.tab = tabR rs) (hname : T.name = nameR rs) (hisM : T.isM = isMR rs) (hf : rs.find? (fun r => r.f == f) = some r) (hc : r.c = none) (hob : r.ob = false) (hdl : dflR T r = none) (hd : r.x = d.name) (hp : parOf (topSt l.prog r.i) = [x])
    (law : ∀ ns : List Int, ns.length ≤ nl → (callN (tabR rs) k).f f [.list (ns.map PyData.int)] = some (.inl (.val (.bool true)))) :
    PySem.W.WalkO q loose XP (hookR m l.prog rs T).says l.row.toRowW d [] (fun f vs => PySem.call f vs) := by
  refine Att.attach_call hn hdf fun w s₀ s₁ mg mb fa o pm cd doc a vs ns G Y ho' hd' hcd hmg hobj hints hlen hg => ?_
  obtain ⟨K, KX, c⟩ := Y
  have Fc : Facts l.prog w K mg rs T := facts_of KX G.T.g c hrows hu ho hi hln htab hname hisM
  have hr' : r ∈ rs := List.mem_of_find?_eq_some hf
  have erf : r.f = f := by simpa using List.find?_some hf
  subst erf
  have ht : tabR rs r.f = some r.fn := by unfold tabR; rw [hf]; rfl
  obtain ⟨fd, FD⟩ := Fc.defs r hr'
  obtain ⟨_, _, bt⟩ := row_binds Fc hr' FD
  have bt := bt hdl
  have efa : fa = He.ga K r.x := by
    have z := Fc.glo r hr' hc
    rw [hd, hmg] at z
    rw [hd]
    exact Value.ref.inj (Option.some.inj z)
  subst efa
  have nl0 : noLst K = true := by
    have m := c.m
    unfold moreB at m
    simp only [Bool.and_eq_true] at m
    exact m.1.1.1.1.1.1.1
  have est : stR l.prog r = topSt l.prog r.i := by unfold stR; rw [hc]
  have ead : adR K r = He.ga K r.x := by unfold adR; rw [hc]
  rw [est, hp] at bt
  refine L2.law_call (k := k + 4) (CX := L2.CX l.prog w) (sp := spF (prOf rs T K) K k r.f 1) KX G.T.g G.T.b G.T.builtins G.T.nolimit hg hobj hints (Nat.le_trans hlen hn2) hr (fun base _ _ => ?_) (fun s u => bt s [u] rfl) (fun H hO hS => ?_) fun H e s' z => ?_
  · have q := fn_ok (base := base) Fc k r hr' hf fd FD
    unfold spR at q
    rw [est, hp, hob, ead] at q
    exact q
  · refine ⟨rfl, fun _ => none, [.list (ns.map PyData.int)], (fun b q z => by cases z), .cons (.lst ?_ (ints_dq ns)) .nil, ?_⟩
    · have e : hide H (fun _ => none) = H := rfl
      rw [e]
      exact sql_rd nl0 hS
    show PostF _ _ _ _ _ ((callN (tabR rs) k).f r.f [.list (ns.map PyData.int)]) _ _
    rw [law ns hlen]
    intro ω' H' v _ _ q
    cases q
    rfl
  · obtain ⟨_, _, _, _, _, _, _, _, _, _, _, _, zz⟩ := z
    exact zz.elim
end Rp

/-! Ev: the evaluator step by step. -/
namespace Rp
open PySem
section
variable {α β : Type} {c : Cfg} {d e : D} {ds l l' : List D} {i j : Int} {x : Exn} {b t : Bool} {k : Call}
theorem frz_v : frzR (.ok (.val d) c) = .ok d c := rfl
theorem frz_o : frzR (.ok (.own ds) c) = .ok (.list ds) c := rfl
theorem frz_x : frzR (.ex x c) = .ex x c := rfl
theorem frz_n : frzR .no = .no := rfl
theorem frz_i {p : Prop} [Decidable p] {a b : Rs W} : frzR (if p then a else b) = if p then frzR a else frzR b := by split <;> rfl
theorem tr_non : truthR (.ok .none c) = .ok false c := rfl
theorem tr_bl : truthR (.ok (.bool b) c) = .ok b c := rfl
theorem tr_int : truthR (.ok (.int i) c) = .ok (i != 0) c := rfl
theorem tr_lst : truthR (.ok (.list l) c) = .ok (!l.isEmpty) c := rfl
theorem tr_tup : truthR (.ok (.tuple l) c) = .ok (!l.isEmpty) c := rfl
theorem tr_x : truthR (.ex x c) = .ex x c := rfl
theorem tr_n : truthR .no = .no := rfl
theorem tr_i {p : Prop} [Decidable p] {a b : Rs D} : truthR (if p then a else b) = if p then truthR a else truthR b := by split <;> rfl
theorem opt_s {a : α} : optR (some a) c = .ok a c := rfl
theorem opt_n : optR (none : Option α) c = .no := rfl
theorem it_seqT : itOf .seq [.tuple l] = some l := rfl
theorem it_seqL : itOf .seq [.list l] = some l := rfl
theorem it_rngN (n : Nat) (h : n ≤ 1000) : itOf .rng [.int n] = some ((List.range n).map fun x => PyData.int (x : Nat)) := by
  have h1 : small (n : Int) = true := by unfold small; simp; omega
  have hb : n ≤ big := by unfold big; omega
  simp only [itOf, h1, Int.toNat_natCast, hb, decide_true, Bool.and_self, if_true]
  unfold rngD
  simp
theorem it_ok {ik : ItK} : itR ik (.ok ds c) = optR (itOf ik ds) c := rfl
theorem it_ex {ik : ItK} : itR ik (.ex x c) = .ex x c := rfl
theorem it_no {ik : ItK} : itR ik .no = .no := rfl
theorem bnd_ok : bndR (.ok (.int i) c) = .ok (some i) c := rfl
theorem nx_ok {a : α} : noX (.ok a c) = .ok a c := rfl
theorem nx_no : noX (.no : Rs α) = .no := rfl
theorem getS_0 {w : Option W} {r : List (Option W)} : getS ⟨w :: r⟩ 0 = w := by cases w <;> rfl
theorem getS_s {w : Option W} {r : List (Option W)} {n : Nat} : getS ⟨w :: r⟩ (n + 1) = getS ⟨r⟩ n := rfl
theorem setS_0 {w v : Option W} {r : List (Option W)} : setS ⟨w :: r⟩ 0 v = ⟨v :: r⟩ := rfl
theorem setS_s {w v : Option W} {r : List (Option W)} {n : Nat} : setS ⟨w :: r⟩ (n + 1) v = ⟨w :: (setS ⟨r⟩ n v).env⟩ := rfl
theorem p_add : prim .add [.int i, .int j] = some (.val (.int (i + j))) := rfl
theorem p_addL : prim .add [.list l, .list l'] = if l.length + l'.length ≤ big then some (.own (l ++ l')) else none := rfl
theorem p_addT : prim .add [.tuple l, .tuple l'] = if l.length + l'.length ≤ big then some (.val (.tuple (l ++ l'))) else none := rfl
theorem p_sub : prim .sub [.int i, .int j] = some (.val (.int (i - j))) := rfl
theorem p_mul : prim .mul [.int i, .int j] = if mulOk i j then some (.val (.int (i * j))) else none := rfl
theorem p_mod : prim .mod [.int i, .int j] = if 0 < j then some (.val (.int (i % j))) else none := rfl
theorem p_fdiv : prim .fdiv [.int i, .int j] = if decide (0 < j) && decide (j < 1073741824) then some (.val (.int (i / j))) else none := rfl
theorem p_neg : prim .neg [.int i] = some (.val (.int (-i))) := rfl
theorem p_lt : prim .lt [.int i, .int j] = some (.val (.bool (decide (i < j)))) := rfl
theorem p_le : prim .le [.int i, .int j] = some (.val (.bool (decide (i ≤ j)))) := rfl
theorem p_gt : prim .gt [.int i, .int j] = some (.val (.bool (decide (j < i)))) := rfl
theorem p_ge : prim .ge [.int i, .int j] = some (.val (.bool (decide (j ≤ i)))) := rfl
theorem p_isN : prim .isN [d] = some (.val (.bool (isNone d))) := rfl
theorem p_ntN : prim .ntN [d] = some (.val (.bool (!isNone d))) := rfl
theorem p_isi {n : Nat} : prim (.isi n) [d] = some (.val (.bool (isi n d))) := rfl
theorem p_lenL : prim .len [.list l] = some (.val (.int l.length)) := rfl
theorem p_lenT : prim .len [.tuple l] = some (.val (.int l.length)) := rfl
theorem p_tupL : prim .tupO [.list l] = some (.val (.tuple l)) := rfl
theorem p_tupT : prim .tupO [.tuple l] = some (.val (.tuple l)) := rfl
theorem p_lstL : prim .lstO [.list l] = some (.own l) := rfl
theorem p_lstT : prim .lstO [.tuple l] = some (.own l) := rfl
theorem p_ixT : prim .ix [.tuple l, .int i] = (ixD l i).map .val := rfl
theorem p_ixL : prim .ix [.list l, .int i] = (ixD l i).map .val := rfl
theorem p_rev : prim .rev [.list l] = some (.own l.reverse) := rfl
theorem dok_r (h : e.depth ≤ 190) : dOk d e = true := by unfold dOk; rw [decide_eq_true h, Bool.or_true]
theorem p_eq : prim .eq [d, e] = if dOk d e then some (.val (.bool (PyData.eqv d e))) else none := rfl
theorem p_ne : prim .ne [d, e] = if dOk d e then some (.val (.bool (!PyData.eqv d e))) else none := rfl
theorem ev_ii : PyData.eqv (.int i) (.int j) = (i == j) := by simp only [PyData.eqv]
theorem ev_ss {s z : Str} : PyData.eqv (.str s) (.str z) = (s == z) := by simp only [PyData.eqv]
theorem ev_tt : PyData.eqv (.tuple l) (.tuple l') = PyData.eqvAll l l' := by simp only [PyData.eqv]
theorem ev_ll : PyData.eqv (.list l) (.list l') = PyData.eqvAll l l' := by simp only [PyData.eqv]
theorem ev_nn : PyData.eqvAll [] [] = true := by simp only [PyData.eqvAll]
theorem ev_cc : PyData.eqvAll (d :: l) (e :: l') = (PyData.eqv d e && PyData.eqvAll l l') := by simp only [PyData.eqvAll]
theorem ev_nc : PyData.eqvAll [] (e :: l') = false := by simp only [PyData.eqvAll]
theorem ev_cn : PyData.eqvAll (d :: l) [] = false := by simp only [PyData.eqvAll]
theorem ixD_nat {α : Type} {l : List α} {n : Nat} : ixD l (n : Int) = l[n]? := by
  unfold ixD L2.atI L2.ixN
  by_cases h : n < l.length
  · have h' : (n : Int) < l.length := by omega
    simp [h]
  · have h' : ¬ ((n : Int) < l.length) := by omega
    simp [h]
theorem ixD_0 {α : Type} {a : α} {l : List α} : ixD (a :: l) 0 = some a := ixD_nat (l := a :: l) (n := 0)
theorem ixD_1 {α : Type} {a b : α} {l : List α} : ixD (a :: b :: l) 1 = some b := ixD_nat (l := a :: b :: l) (n := 1)
theorem ixD_2 {α : Type} {a b c : α} {l : List α} : ixD (a :: b :: c :: l) 2 = some c := ixD_nat (l := a :: b :: c :: l) (n := 2)
theorem ixD_3 {α : Type} {a b c d : α} {l : List α} : ixD (a :: b :: c :: d :: l) 3 = some d := ixD_nat (l := a :: b :: c :: d :: l) (n := 3)
theorem map_s {α β : Type} {f : α → β} {a : α} : Option.map f (some a) = some (f a) := rfl
theorem map_n {α β : Type} {f : α → β} : Option.map f none = none := rfl
theorem fin_v : finR (.ok (.rt (.val d)) c) = some (.inl (.val d)) := rfl
theorem fin_o : finR (.ok (.rt (.own l)) c) = some (.inl (.own l)) := rfl
theorem fin_nx : finR (.ok .nx c) = some (.inl (.val .none)) := rfl
theorem fin_x : finR (.ex x c) = some (.inr x) := rfl
theorem fin_i {p : Prop} [Decidable p] {a b : Rs Fl} : finR (if p then a else b) = if p then finR a else finR b := by split <;> rfl
theorem dok_i : dOk d (.int j) = true := dok_r (by simp [PyData.depth])
theorem dok_s {s : Str} : dOk d (.str s) = true := dok_r (by simp [PyData.depth])
theorem dok_n : dOk d .none = true := dok_r (by simp [PyData.depth])
theorem dok_t1 {s : Str} : dOk d (.tuple [.str s]) = true := dok_r (by simp [PyData.depth, PyData.depthAll])
theorem dok_t2 {s : Str} : dOk d (.tuple [.str s, .int i]) = true := dok_r (by simp [PyData.depth, PyData.depthAll])
theorem dok_t3 {s : Str} : dOk d (.tuple [.str s, .int i, .int j]) = true := dok_r (by simp [PyData.depth, PyData.depthAll])
theorem ev_st {s : Str} : PyData.eqv (.str s) (.tuple l) = false := by simp only [PyData.eqv]
theorem ev_ts {s : Str} : PyData.eqv (.tuple l) (.str s) = false := by simp only [PyData.eqv]
theorem ev_it : PyData.eqv (.int i) (.tuple l) = false := by simp only [PyData.eqv]
theorem ev_ti : PyData.eqv (.tuple l) (.int i) = false := by simp only [PyData.eqv]
theorem ev_is {s : Str} : PyData.eqv (.int i) (.str s) = false := by simp only [PyData.eqv]
theorem ev_si {s : Str} : PyData.eqv (.str s) (.int i) = false := by simp only [PyData.eqv]
theorem ev_ni : PyData.eqv .none (.int i) = false := by simp only [PyData.eqv]
theorem for_cons {n : Nat} {f : Cfg → Rs Fl} : forL [n] f (d :: l) c = (f (setS c n (some (.val d)))).bind fun x c2 => match x with
      | .nx => forL [n] f l c2
      | .ct => forL [n] f l c2
      | .bk => .ok .nx c2
      | .rt w => .ok (.rt w) c2 := rfl
theorem p_pow : prim .pow [.int i, .int j] = if decide (0 ≤ j) && decide (j ≤ 1000000) && decide (i.natAbs < 2 ^ 64) then some (.val (.int (i ^ j.toNat))) else none := rfl
section
variable (a b k : Nat)
theorem nc_add : ((a : Int) + (b : Int)) = ((a + b : Nat) : Int) := rfl
theorem nc_addl : ((a : Int) + (no_index (OfNat.ofNat k) : Int)) = ((a + k : Nat) : Int) := rfl
theorem nc_ladd : ((no_index (OfNat.ofNat k) : Int) + (a : Int)) = ((k + a : Nat) : Int) := rfl
theorem nc_mul : ((a : Int) * (b : Int)) = ((a * b : Nat) : Int) := rfl
theorem nc_mull : ((a : Int) * (no_index (OfNat.ofNat k) : Int)) = ((a * k : Nat) : Int) := rfl
theorem nc_lmul : ((no_index (OfNat.ofNat k) : Int) * (a : Int)) = ((k * a : Nat) : Int) := rfl
theorem nc_mod : ((a : Int) % (b : Int)) = ((a % b : Nat) : Int) := rfl
theorem nc_modl : ((a : Int) % (no_index (OfNat.ofNat k) : Int)) = ((a % k : Nat) : Int) := rfl
theorem nc_div : ((a : Int) / (b : Int)) = ((a / b : Nat) : Int) := rfl
theorem nc_divl : ((a : Int) / (no_index (OfNat.ofNat k) : Int)) = ((a / k : Nat) : Int) := rfl
theorem nc_sub1 : (((a + 1 : Nat) : Int) - 1) = (a : Int) := by omega
theorem nc_beq : ((a : Int) == (b : Int)) = decide (a = b) := by
  by_cases h : a = b
  · subst h; simp
  · have : ¬ (a : Int) = b := by omega
    simp [h, this]
theorem nc_beql : ((a : Int) == (no_index (OfNat.ofNat k) : Int)) = decide (a = k) := nc_beq a k
theorem nc_lbeq : ((no_index (OfNat.ofNat k) : Int) == (a : Int)) = decide (k = a) := nc_beq k a
theorem nc_lt : decide ((a : Int) < (b : Int)) = decide (a < b) := by simp
theorem nc_ltl : decide ((a : Int) < (no_index (OfNat.ofNat k) : Int)) = decide (a < k) := nc_lt a k
theorem nc_llt : decide ((no_index (OfNat.ofNat k) : Int) < (a : Int)) = decide (k < a) := nc_lt k a
theorem nc_le : decide ((a : Int) ≤ (b : Int)) = decide (a ≤ b) := by simp
theorem nc_lel : decide ((a : Int) ≤ (no_index (OfNat.ofNat k) : Int)) = decide (a ≤ k) := nc_le a k
theorem nc_lle : decide ((no_index (OfNat.ofNat k) : Int) ≤ (a : Int)) = decide (k ≤ a) := nc_le k a
theorem nc_ltp : ((a : Int) < (b : Int)) = (a < b) := by simp
theorem nc_ltlp : ((a : Int) < (no_index (OfNat.ofNat k) : Int)) = (a < k) := nc_ltp a k
theorem nc_lltp : ((no_index (OfNat.ofNat k) : Int) < (a : Int)) = (k < a) := nc_ltp k a
end
theorem call_eq {tab : Nat → Option Fn} {n f : Nat} {fn : Fn} (h : tab f = some fn) : (callN tab (n + 1)).f f ds = runF (callN tab n) fn ds := by
  show (match tab f with | some fn => runF (callN tab n) fn ds | none => none) = _
  rw [h]
end
end Rp

/-! Fw: the evaluator step by step; what is still to be done stands behind a mark. -/
namespace Rp
open PySem
/-- a mark: simp does not walk into what it bears -/
structure Bx {α : Type} (a : α) : Type where mk ::
section
variable {k : Call} {c : Cfg}
noncomputable def sqR (k : Call) (r : Ss) (m : Bx r) (x : Rs Fl) : Rs Fl := x.bind fun f c => match f with
  | .nx => exSs k r c
  | f => .ok f c
theorem sqR_nx {k : Call} {r : Ss} {m : Bx r} : sqR k r m (.ok .nx c) = exSs k r c := rfl
theorem sqR_rt {k : Call} {r : Ss} {m : Bx r} {w : W} : sqR k r m (.ok (.rt w) c) = .ok (.rt w) c := rfl
theorem sqR_bk {k : Call} {r : Ss} {m : Bx r} : sqR k r m (.ok .bk c) = .ok .bk c := rfl
theorem sqR_ct {k : Call} {r : Ss} {m : Bx r} : sqR k r m (.ok .ct c) = .ok .ct c := rfl
theorem sqR_ex {k : Call} {r : Ss} {m : Bx r} {x : Exn} : sqR k r m (.ex x c) = .ex x c := rfl
theorem sqR_no {k : Call} {r : Ss} {m : Bx r} : sqR k r m .no = .no := rfl
theorem sqR_if {k : Call} {r : Ss} {m : Bx r} {p : Prop} [Decidable p] {a1 a2 : Rs Fl} : sqR k r m (if p then a1 else a2) = if p then sqR k r m a1 else sqR k r m a2 := by split <;> rfl
theorem xs_nil : exSs k .nil c = .ok .nx c := by rw [exSs]
theorem xs_cons {s : S} {r : Ss} : exSs k (.cons s r) c = sqR k r ⟨⟩ (exS k s c) := by rw [exSs] <;> rfl
noncomputable def asgR (i : Nat) (x : Rs W) : Rs Fl := x.bind fun w c => .ok .nx (setS c i (some w))
theorem asgR_ok {i : Nat} {w : W} : asgR i (.ok w c) = .ok .nx (setS c i (some w)) := rfl
theorem asgR_ex {i : Nat} {x : Exn} : asgR i (.ex x c) = .ex x c := rfl
theorem asgR_no {i : Nat} : asgR i .no = .no := rfl
theorem asgR_if {i : Nat} {p : Prop} [Decidable p] {a1 a2 : Rs W} : asgR i (if p then a1 else a2) = if p then asgR i a1 else asgR i a2 := by split <;> rfl
theorem x_asg {i : Nat} {e : Ex} : exS k (.asg i e) c = asgR i ((den k e).v c) := by rw [exS] <;> rfl
noncomputable def unpB : Option Cfg → Rs Fl
  | some c => .ok .nx c
  | none => .no
theorem unpB_s : unpB (some c) = .ok .nx c := rfl
theorem unpB_n : unpB none = .no := rfl
noncomputable def unpR (is : List Nat) (x : Rs D) : Rs Fl := x.bind fun d c => match d, bindT is d c with
  | .tuple _, some c => .ok .nx c
  | _, _ => .no
theorem unpR_ex {is : List Nat} {x : Exn} : unpR is (.ex x c) = .ex x c := rfl
theorem unpR_no {is : List Nat} : unpR is .no = .no := rfl
theorem unpR_if {is : List Nat} {p : Prop} [Decidable p] {a1 a2 : Rs D} : unpR is (if p then a1 else a2) = if p then unpR is a1 else unpR is a2 := by split <;> rfl
theorem unpR_ok {is : List Nat} {ds : List D} : unpR is (.ok (.tuple ds) c) = unpB (bindT is (.tuple ds) c) := by
  unfold unpR; rw [Rs.bind_ok]; cases bindT is (.tuple ds) c <;> rfl
theorem x_unp {is : List Nat} {e : Ex} : exS k (.unp is e) c = unpR is (frzR ((den k e).v c)) := by rw [exS] <;> rfl
noncomputable def ifR (k : Call) (a : Ss) (b : Ss) (m : Bx a) (q : Bx b) (x : Rs Bool) : Rs Fl := x.bind fun t c => if t then exSs k a c else exSs k b c
theorem ifR_ok {k : Call} {a : Ss} {b : Ss} {m : Bx a} {q : Bx b} {t : Bool} : ifR k a b m q (.ok t c) = if t then exSs k a c else exSs k b c := rfl
theorem ifR_ex {k : Call} {a : Ss} {b : Ss} {m : Bx a} {q : Bx b} {x : Exn} : ifR k a b m q (.ex x c) = .ex x c := rfl
theorem ifR_no {k : Call} {a : Ss} {b : Ss} {m : Bx a} {q : Bx b} : ifR k a b m q .no = .no := rfl
theorem ifR_if {k : Call} {a : Ss} {b : Ss} {m : Bx a} {q : Bx b} {p : Prop} [Decidable p] {a1 a2 : Rs Bool} : ifR k a b m q (if p then a1 else a2) = if p then ifR k a b m q a1 else ifR k a b m q a2 := by split <;> rfl
theorem x_ifs {x : Ex} {a b : Ss} : exS k (.ifs x a b) c = ifR k a b ⟨⟩ ⟨⟩ ((den k x).t c) := by rw [exS] <;> rfl
noncomputable def forR (k : Call) (tg : List Nat) (b : Ss) (m : Bx b) (x : Rs (List D)) : Rs Fl := x.bind fun items c => forL tg (exSs k b) items c
theorem forR_ok {k : Call} {tg : List Nat} {b : Ss} {m : Bx b} {l : List D} : forR k tg b m (.ok l c) = forL tg (exSs k b) l c := rfl
theorem forR_ex {k : Call} {tg : List Nat} {b : Ss} {m : Bx b} {x : Exn} : forR k tg b m (.ex x c) = .ex x c := rfl
theorem forR_no {k : Call} {tg : List Nat} {b : Ss} {m : Bx b} : forR k tg b m .no = .no := rfl
theorem forR_if {k : Call} {tg : List Nat} {b : Ss} {m : Bx b} {p : Prop} [Decidable p] {a1 a2 : Rs (List D)} : forR k tg b m (if p then a1 else a2) = if p then forR k tg b m a1 else forR k tg b m a2 := by split <;> rfl
theorem x_for {tg : List Nat} {ik : ItK} {es : Exs} {b : Ss} : exS k (.for tg ik es b) c = forR k tg b ⟨⟩ (itR ik (denVs k es c)) := by rw [exS] <;> rfl
theorem x_whl {x : Ex} {b : Ss} : exS k (.whl x b) c = whlL (den k x).t (exSs k b) wfuel c := by rw [exS]
noncomputable def rtR (i : Unit) (x : Rs W) : Rs Fl := x.bind fun w c => .ok (.rt w) c
theorem rtR_ok {i : Unit} {w : W} : rtR i (.ok w c) = .ok (.rt w) c := rfl
theorem rtR_ex {i : Unit} {x : Exn} : rtR i (.ex x c) = .ex x c := rfl
theorem rtR_no {i : Unit} : rtR i .no = .no := rfl
theorem rtR_if {i : Unit} {p : Prop} [Decidable p] {a1 a2 : Rs W} : rtR i (if p then a1 else a2) = if p then rtR i a1 else rtR i a2 := by split <;> rfl
noncomputable def retV (i : Nat) (c : Cfg) : Option W → Rs Fl
  | some (.own ds) => .ok (.rt (.own ds)) (setS c i none)
  | some (.val d) => .ok (.rt (.val d)) c
  | _ => .no
theorem retV_o {i : Nat} {ds : List D} : retV i c (some (.own ds)) = .ok (.rt (.own ds)) (setS c i none) := rfl
theorem retV_v {i : Nat} {d : D} : retV i c (some (.val d)) = .ok (.rt (.val d)) c := rfl
theorem retV_x {i : Nat} {q : XC} {p : Option D} : retV i c (some (.exc q p)) = .no := rfl
theorem retV_b {i : Nat} {q : Ob} : retV i c (some (.obj q)) = .no := rfl
theorem retV_l {i : Nat} {b : Bool} {ds : List D} : retV i c (some (.lnt b ds)) = .no := rfl
theorem retV_n {i : Nat} : retV i c none = .no := rfl
/-- the slot that a bare name tells -/
noncomputable def Ex.vi : Ex → Option Nat
  | .var i => some i
  | _ => none
noncomputable def retE (k : Call) (e : Ex) (_ : Bx e) (c : Cfg) : Option Nat → Rs Fl
  | some i => retV i c (getS c i)
  | none => rtR () ((den k e).v c)
theorem retE_s {e : Ex} {m : Bx e} {i : Nat} : retE k e m c (some i) = retV i c (getS c i) := rfl
theorem retE_n {e : Ex} {m : Bx e} : retE k e m c none = rtR () ((den k e).v c) := rfl
theorem x_ret {e : Ex} : exS k (.ret e) c = retE k e ⟨⟩ c e.vi := by
  cases e with
  | var i =>
    show _ = retV i c (getS c i)
    rw [exS, retOwn]
    cases h : getS c i with
    | none => simp only [den, h, Rs.bind_no, retV]
    | some w => cases w <;> simp only [den, h, Rs.bind_no, Rs.bind_ok, retV]
  | _ => rw [exS] <;> rfl
theorem vi_eq {e : Ex} : e.vi = (match e with
  | .var i => some i
  | _ => none) := by cases e <;> rfl
theorem x_pass : exS k .pass c = .ok .nx c := by rw [exS]
theorem x_brk : exS k .brk c = .ok .bk c := by rw [exS]
noncomputable def expR (i : Unit) (x : Rs D) : Rs Fl := x.bind fun _ c => .ok .nx c
theorem expR_ok {i : Unit} {d : D} : expR i (.ok d c) = .ok .nx c := rfl
theorem expR_ex {i : Unit} {x : Exn} : expR i (.ex x c) = .ex x c := rfl
theorem expR_no {i : Unit} : expR i .no = .no := rfl
theorem expR_if {i : Unit} {p : Prop} [Decidable p] {a1 a2 : Rs D} : expR i (if p then a1 else a2) = if p then expR i a1 else expR i a2 := by split <;> rfl
theorem x_exp {e : Ex} : exS k (.exp e) c = expR () (frzR ((den k e).v c)) := by rw [exS] <;> rfl
theorem x_raise {x : XC} : exS k (.raise x) c = .ex ⟨x, none⟩ c := by rw [exS]
noncomputable def rsR (q : XC) (x : Rs D) : Rs Fl := x.bind fun d c => .ex ⟨q, some d⟩ c
theorem rsR_ok {q : XC} {d : D} : rsR q (.ok d c) = .ex ⟨q, some d⟩ c := rfl
theorem rsR_ex {q : XC} {x : Exn} : rsR q (.ex x c) = .ex x c := rfl
theorem rsR_no {q : XC} : rsR q .no = .no := rfl
theorem rsR_if {q : XC} {p : Prop} [Decidable p] {a1 a2 : Rs D} : rsR q (if p then a1 else a2) = if p then rsR q a1 else rsR q a2 := by split <;> rfl
theorem x_raiseP {x : XC} {e : Ex} : exS k (.raiseP x e) c = rsR x (frzR ((den k e).v c)) := by rw [exS] <;> rfl
noncomputable def tryH (k : Call) (hs : Hs) (_ : Bx hs) (r : Rs Fl) : Rs Fl := tryR r (fun x c => exHs k hs x c)
theorem tryH_ok {hs : Hs} {m : Bx hs} {f : Fl} : tryH k hs m (.ok f c) = .ok f c := rfl
theorem tryH_ex {hs : Hs} {m : Bx hs} {x : Exn} : tryH k hs m (.ex x c) = exHs k hs x c := rfl
theorem tryH_no {hs : Hs} {m : Bx hs} : tryH k hs m .no = .no := rfl
theorem tryH_if {hs : Hs} {m : Bx hs} {p : Prop} [Decidable p] {a b : Rs Fl} : tryH k hs m (if p then a else b) = if p then tryH k hs m a else tryH k hs m b := by split <;> rfl
theorem x_try {b : Ss} {hs : Hs} : exS k (.try b hs) c = tryH k hs ⟨⟩ (exSs k b c) := by rw [exS] <;> rfl
theorem x_bad : exS k .bad c = .no := by rw [exS]
theorem x_aug {i : Nat} {p : P} {e : Ex} : exS k (.aug i p e) c = (match getS c i with
      | some (.val a) => (frzR ((den k e).v c)).bind fun b c => match augP p a b with
        | some w => .ok .nx (setS c i (some w))
        | none => .no
      | _ => .no) := by rw [exS] <;> rfl
theorem x_app {i : Nat} {e : Ex} : exS k (.app i e) c = (match getS c i with
      | some (.own _) => (frzR ((den k e).v c)).bind fun d c => match getS c i with
        | some (.own ds) => if ds.length < big then .ok .nx (setS c i (some (.own (ds ++ [d])))) else .no
        | _ => .no
      | _ => .no) := by rw [exS] <;> rfl
theorem x_ext {i : Nat} {e : Ex} : exS k (.ext i e) c = (match getS c i with
      | some (.own _) => ((den k e).v c).bind fun w c => match getS c i, w with
        | some (.own ds), .own es => if ds.length + es.length ≤ big then .ok .nx (setS c i (some (.own (ds ++ es)))) else .no
        | _, _ => .no
      | _ => .no) := by rw [exS] <;> rfl
theorem x_inz {i : Nat} {a : Ex} {e : Ex} : exS k (.inz i a e) c = (match getS c i with
      | some (.own _) => (frzR ((den k a).v c)).bind fun a c => (frzR ((den k e).v c)).bind fun d c => match getS c i, a with
        | some (.own ds), .int j => if decide (0 ≤ j) && decide (j ≤ ds.length) && decide (ds.length < big) then .ok .nx (setS c i (some (.own (ds.take j.toNat ++ [d] ++ ds.drop j.toNat)))) else .no
        | _, _ => .no
      | _ => .no) := by rw [exS] <;> rfl
theorem x_six {i : Nat} {a : Ex} {e : Ex} : exS k (.six i a e) c = ((frzR ((den k e).v c)).bind fun d c => match getS c i with
      | some (.own _) => (frzR ((den k a).v c)).bind fun a c => match getS c i, a with
        | some (.own ds), .int j => if decide (0 ≤ j) && decide (j < ds.length) then .ok .nx (setS c i (some (.own (ds.set j.toNat d)))) else if decide (j < 0) && decide (-(ds.length : Int) ≤ j) then .ok .nx (setS c i (some (.own (ds.set (j + ds.length).toNat d)))) else .no
        | _, _ => .no
      | _ => .no) := by rw [exS] <;> rfl
theorem x_sixF {i : Nat} {f : Str} {j : Nat} {n : Int} {e : Ex} : exS k (.sixF i f j n e) c = ((frzR ((den k e).v c)).bind fun d c => match atF c i f j n with
      | some (o, ds, a) => if decide (0 ≤ a) && decide (a < ds.length) then .ok .nx (setS c i (some (.obj (putO o f (.own (ds.set a.toNat d)))))) else .no
      | none => .no) := by rw [exS] <;> rfl
theorem x_augF {i : Nat} {f : Str} {a : Int} : exS k (.augF i f a) c = (match getO c i with
      | some o => (match ofF o f with
        | some (.val (.int b)) => if soleO i 0 c.env then .ok .nx (setS c i (some (.obj (putO o f (.val (.int (b + a))))))) else .no
        | _ => .no)
      | none => .no) := by rw [exS] <;> rfl
theorem x_augxF {i : Nat} {f : Str} {j : Nat} {n : Int} {a : Int} : exS k (.augxF i f j n a) c = (match atF c i f j n with
      | some (o, ds, b) => if decide (0 ≤ b) && decide (b < ds.length) then (match ds[b.toNat]? with
          | some (.int x) => .ok .nx (setS c i (some (.obj (putO o f (.own (ds.set b.toNat (.int (x + a))))))))
          | _ => .no) else .no
      | none => .no) := by rw [exS] <;> rfl
theorem x_mk {i : Nat} {q : Str} {ini : List (Str × Fi)} {es : Exs} : exS k (.mk i q ini es) c = (if noObj c.env && decide (0 < i) && decide (i < c.env.length) then (denWs k es c).bind fun ws cf => (match iniO q ini ws with
      | some o => if noObj cf.env then .ok .nx (setS cf i (some (.obj o))) else .no
      | none => .no) else .no) := by rw [exS] <;> rfl
theorem x_asgL {i : Nat} {e : Ex} : exS k (.asgL i e) c = (((den k e).v c).bind fun w c => match w with
      | .own ds => .ok .nx (setS c i (some (.lnt false ds)))
      | _ => .no) := by rw [exS] <;> rfl
theorem x_sixL {i : Nat} {a : Ex} {e : Ex} : exS k (.sixL i a e) c = ((frzR ((den k e).v c)).bind fun d c => match getL c i with
      | some _ => (frzR ((den k a).v c)).bind fun a c => (match getL c i, a with
        | some (q, ds), .int j => if decide (0 ≤ j) && decide (j < ds.length) && soleO i 0 c.env then .ok .nx (setS c i (some (.lnt q (ds.set j.toNat d)))) else .no
        | _, _ => .no)
      | none => .no) := by rw [exS] <;> rfl
noncomputable def peR (k : Call) (e : Ex) (c : Cfg) : Rs D := peekR e c ((den k e).v c)
noncomputable def pkV (c : Cfg) : Option W → Rs D
  | some (.val d) => .ok d c
  | some (.own ds) => .ok (.list ds) c
  | _ => .no
theorem pkV_v {d : D} : pkV c (some (.val d)) = .ok d c := rfl
theorem pkV_o {ds : List D} : pkV c (some (.own ds)) = .ok (.list ds) c := rfl
theorem pkV_x {q : XC} {p : Option D} : pkV c (some (.exc q p)) = .no := rfl
theorem pkV_b {q : Ob} : pkV c (some (.obj q)) = .no := rfl
theorem pkV_l {b : Bool} {ds : List D} : pkV c (some (.lnt b ds)) = .no := rfl
theorem pkV_n : pkV c none = .no := rfl
noncomputable def pkE (k : Call) (e : Ex) (_ : Bx e) (c : Cfg) : Option Nat → Rs D
  | some i => pkV c (getS c i)
  | none => frzR ((den k e).v c)
theorem pkE_s {e : Ex} {m : Bx e} {i : Nat} : pkE k e m c (some i) = pkV c (getS c i) := rfl
theorem pkE_n {e : Ex} {m : Bx e} : pkE k e m c none = frzR ((den k e).v c) := rfl
theorem pe_eq {e : Ex} : peR k e c = pkE k e ⟨⟩ c e.vi := by
  cases e with
  | var i => unfold peR peekR; show _ = pkV c (getS c i); unfold pkV; rfl
  | _ => rfl
noncomputable def varR (i : Nat) (c : Cfg) : Option W → Rs W
  | some (.own ds) => .ok (.val (.list ds)) (setS c i (some (.val (.list ds))))
  | some (.val d) => .ok (.val d) c
  | _ => .no
noncomputable def vtR (c : Cfg) : Option W → Rs Bool
  | some (.own ds) => truthR (.ok (.list ds) c)
  | some (.val d) => truthR (.ok d c)
  | _ => .no
theorem varR_o {i : Nat} {ds : List D} : varR i c (some (.own ds)) = .ok (.val (.list ds)) (setS c i (some (.val (.list ds)))) := rfl
theorem varR_v {i : Nat} {d : D} : varR i c (some (.val d)) = .ok (.val d) c := rfl
theorem varR_x {i : Nat} {q : XC} {p : Option D} : varR i c (some (.exc q p)) = .no := rfl
theorem varR_b {i : Nat} {q : Ob} : varR i c (some (.obj q)) = .no := rfl
theorem varR_l {i : Nat} {b : Bool} {ds : List D} : varR i c (some (.lnt b ds)) = .no := rfl
theorem varR_n {i : Nat} : varR i c none = .no := rfl
theorem vtR_o {ds : List D} : vtR c (some (.own ds)) = truthR (.ok (.list ds) c) := rfl
theorem vtR_v {d : D} : vtR c (some (.val d)) = truthR (.ok d c) := rfl
theorem vtR_x {q : XC} {p : Option D} : vtR c (some (.exc q p)) = .no := rfl
theorem vtR_b {q : Ob} : vtR c (some (.obj q)) = .no := rfl
theorem vtR_l {b : Bool} {ds : List D} : vtR c (some (.lnt b ds)) = .no := rfl
theorem vtR_n : vtR c none = .no := rfl
theorem v_var {i : Nat} : (den k (.var i)).v c = varR i c (getS c i) := by rw [den]; unfold varR; rfl
theorem t_var {i : Nat} : (den k (.var i)).t c = vtR c (getS c i) := by rw [den]; unfold vtR; rfl
theorem v_con {d : D} : (den k (.con d)).v c = .ok (.val d) c := by rw [den] <;> rfl
theorem t_con {d : D} : (den k (.con d)).t c = truthR (.ok d c) := by rw [den] <;> rfl
theorem v_glo {x : Str} {d : D} : (den k (.glo x d)).v c = .ok (.val d) c := by rw [den] <;> rfl
theorem t_glo {x : Str} {d : D} : (den k (.glo x d)).t c = truthR (.ok d c) := by rw [den] <;> rfl
theorem t_tup {es : Exs} : (den k (.tup es)).t c = truthR (frzR ((den k (.tup es)).v c)) := by rw [den] <;> rfl
theorem t_lst {es : Exs} : (den k (.lst es)).t c = truthR (frzR ((den k (.lst es)).v c)) := by rw [den] <;> rfl
theorem t_pr {p : P} {es : Exs} : (den k (.pr p es)).t c = truthR (frzR ((den k (.pr p es)).v c)) := by rw [den] <;> rfl
theorem t_chn {ps : List P} {a : Ex} {es : Exs} : (den k (.chn ps a es)).t c = truthR (frzR ((den k (.chn ps a es)).v c)) := by rw [den] <;> rfl
theorem t_slc {e : Ex} {lo : Exs} {hi : Exs} : (den k (.slc e lo hi)).t c = truthR (frzR ((den k (.slc e lo hi)).v c)) := by rw [den] <;> rfl
theorem t_call {f : Nat} {es : Exs} : (den k (.call f es)).t c = truthR (frzR ((den k (.call f es)).v c)) := by rw [den] <;> rfl
theorem t_comp {elt : Ex} {tg : List Nat} {ik : ItK} {es : Exs} {cnd : Exs} : (den k (.comp elt tg ik es cnd)).t c = truthR (frzR ((den k (.comp elt tg ik es cnd)).v c)) := by rw [den] <;> rfl
theorem t_isx {x : XC} {i : Nat} : (den k (.isx x i)).t c = truthR (frzR ((den k (.isx x i)).v c)) := by rw [den] <;> rfl
theorem t_fld {i : Nat} {f : Str} : (den k (.fld i f)).t c = truthR (frzR ((den k (.fld i f)).v c)) := by rw [den] <;> rfl
theorem t_inD {x : Str} {ks : List Str} {neg : Bool} {e : Ex} : (den k (.inD x ks neg e)).t c = truthR (frzR ((den k (.inD x ks neg e)).v c)) := by rw [den] <;> rfl
theorem t_getD {x : Str} {kvs : List (Str × D)} {e : Ex} : (den k (.getD x kvs e)).t c = truthR (frzR ((den k (.getD x kvs e)).v c)) := by rw [den] <;> rfl
theorem t_keysS {x : Str} {ks : List Str} : (den k (.keysS x ks)).t c = truthR (frzR ((den k (.keysS x ks)).v c)) := by rw [den] <;> rfl
theorem t_compX {elt : Ex} {tg : List Nat} {ik : ItK} {es : Exs} {cnd : Exs} : (den k (.compX elt tg ik es cnd)).t c = truthR (frzR ((den k (.compX elt tg ik es cnd)).v c)) := by rw [den] <;> rfl
theorem t_fldO {i : Nat} {f : Str} : (den k (.fldO i f)).t c = truthR (frzR ((den k (.fldO i f)).v c)) := by rw [den] <;> rfl
theorem t_ixF {i : Nat} {f : Str} {j : Nat} {n : Int} : (den k (.ixF i f j n)).t c = truthR (frzR ((den k (.ixF i f j n)).v c)) := by rw [den] <;> rfl
theorem t_mth {i : Nat} {cn : Str} {m : Str} {f : Nat} {es : Exs} : (den k (.mth i cn m f es)).t c = truthR (frzR ((den k (.mth i cn m f es)).v c)) := by rw [den] <;> rfl
theorem t_mthN {i : Nat} {f : Nat} {es : Exs} : (den k (.mthN i f es)).t c = truthR (frzR ((den k (.mthN i f es)).v c)) := by rw [den] <;> rfl
theorem t_newm {q : Str} {ini : List (Str × Fi)} {m : Str} {f : Nat} {as : List (Nat × Bool)} : (den k (.newm q ini m f as)).t c = truthR (frzR ((den k (.newm q ini m f as)).v c)) := by rw [den] <;> rfl
theorem t_callK {f : Nat} {kw : Str} {es : Exs} : (den k (.callK f kw es)).t c = truthR (frzR ((den k (.callK f kw es)).v c)) := by rw [den] <;> rfl
theorem t_callD {f : Nat} {es : Exs} {i : Int} : (den k (.callD f es i)).t c = truthR (frzR ((den k (.callD f es i)).v c)) := by rw [den] <;> rfl
theorem t_ixL {i : Nat} {e : Ex} : (den k (.ixL i e)).t c = truthR (frzR ((den k (.ixL i e)).v c)) := by rw [den] <;> rfl
theorem t_mthL {i : Nat} {f : Nat} {a : Ex} {b : Ex} : (den k (.mthL i f a b)).t c = truthR (frzR ((den k (.mthL i f a b)).v c)) := by rw [den] <;> rfl
noncomputable def tuR (i : Unit) (x : Rs (List D)) : Rs W := x.bind fun ds c => .ok (.val (.tuple ds)) c
theorem tuR_ok {i : Unit} {l : List D} : tuR i (.ok l c) = .ok (.val (.tuple l)) c := rfl
theorem tuR_ex {i : Unit} {x : Exn} : tuR i (.ex x c) = .ex x c := rfl
theorem tuR_no {i : Unit} : tuR i .no = .no := rfl
theorem tuR_if {i : Unit} {p : Prop} [Decidable p] {a1 a2 : Rs (List D)} : tuR i (if p then a1 else a2) = if p then tuR i a1 else tuR i a2 := by split <;> rfl
noncomputable def lsR (i : Unit) (x : Rs (List D)) : Rs W := x.bind fun ds c => .ok (.own ds) c
theorem lsR_ok {i : Unit} {l : List D} : lsR i (.ok l c) = .ok (.own l) c := rfl
theorem lsR_ex {i : Unit} {x : Exn} : lsR i (.ex x c) = .ex x c := rfl
theorem lsR_no {i : Unit} : lsR i .no = .no := rfl
theorem lsR_if {i : Unit} {p : Prop} [Decidable p] {a1 a2 : Rs (List D)} : lsR i (if p then a1 else a2) = if p then lsR i a1 else lsR i a2 := by split <;> rfl
theorem v_tup {es : Exs} : (den k (.tup es)).v c = tuR () (denVs k es c) := by rw [den] <;> rfl
theorem v_lst {es : Exs} : (den k (.lst es)).v c = lsR () (denVs k es c) := by rw [den] <;> rfl
noncomputable def prR (pr : P) (x : Rs (List D)) : Rs W := x.bind fun ds c => optR (prim pr ds) c
theorem prR_ok {pr : P} {l : List D} : prR pr (.ok l c) = optR (prim pr l) c := rfl
theorem prR_ex {pr : P} {x : Exn} : prR pr (.ex x c) = .ex x c := rfl
theorem prR_no {pr : P} : prR pr .no = .no := rfl
theorem prR_if {pr : P} {p : Prop} [Decidable p] {a1 a2 : Rs (List D)} : prR pr (if p then a1 else a2) = if p then prR pr a1 else prR pr a2 := by split <;> rfl
theorem v_pr {p : P} {es : Exs} : (den k (.pr p es)).v c = prR p (denPs k es c) := by rw [den] <;> rfl
noncomputable def vdR (d : D) (x : Rs (List D)) : Rs (List D) := x.bind fun ds c => .ok (d :: ds) c
theorem vdR_ok {d : D} {l : List D} : vdR d (.ok l c) = .ok (d :: l) c := rfl
theorem vdR_ex {d : D} {x : Exn} : vdR d (.ex x c) = .ex x c := rfl
theorem vdR_no {d : D} : vdR d .no = .no := rfl
theorem vdR_if {d : D} {p : Prop} [Decidable p] {a1 a2 : Rs (List D)} : vdR d (if p then a1 else a2) = if p then vdR d a1 else vdR d a2 := by split <;> rfl
noncomputable def vcR (k : Call) (r : Exs) (m : Bx r) (x : Rs D) : Rs (List D) := x.bind fun d c => (denVs k r c).bind fun ds c => .ok (d :: ds) c
theorem vcR_ok {k : Call} {r : Exs} {m : Bx r} {d : D} : vcR k r m (.ok d c) = vdR d (denVs k r c) := rfl
theorem vcR_ex {k : Call} {r : Exs} {m : Bx r} {x : Exn} : vcR k r m (.ex x c) = .ex x c := rfl
theorem vcR_no {k : Call} {r : Exs} {m : Bx r} : vcR k r m .no = .no := rfl
theorem vcR_if {k : Call} {r : Exs} {m : Bx r} {p : Prop} [Decidable p] {a1 a2 : Rs D} : vcR k r m (if p then a1 else a2) = if p then vcR k r m a1 else vcR k r m a2 := by split <;> rfl
noncomputable def pcR (k : Call) (r : Exs) (m : Bx r) (x : Rs D) : Rs (List D) := x.bind fun d c => (denPs k r c).bind fun ds c => .ok (d :: ds) c
theorem pcR_ok {k : Call} {r : Exs} {m : Bx r} {d : D} : pcR k r m (.ok d c) = vdR d (denPs k r c) := rfl
theorem pcR_ex {k : Call} {r : Exs} {m : Bx r} {x : Exn} : pcR k r m (.ex x c) = .ex x c := rfl
theorem pcR_no {k : Call} {r : Exs} {m : Bx r} : pcR k r m .no = .no := rfl
theorem pcR_if {k : Call} {r : Exs} {m : Bx r} {p : Prop} [Decidable p] {a1 a2 : Rs D} : pcR k r m (if p then a1 else a2) = if p then pcR k r m a1 else pcR k r m a2 := by split <;> rfl
theorem vs_nil : denVs k .nil c = .ok [] c := by rw [denVs]
theorem ps_nil : denPs k .nil c = .ok [] c := by rw [denPs]
theorem vs_cons {e : Ex} {r : Exs} : denVs k (.cons e r) c = vcR k r ⟨⟩ (frzR ((den k e).v c)) := by rw [denVs] <;> rfl
theorem ps_cons {e : Ex} {r : Exs} : denPs k (.cons e r) c = pcR k r ⟨⟩ (peR k e c) := by rw [denPs] <;> rfl
theorem ts_nil : denTs k .nil c = .ok true c := by rw [denTs]
theorem ts_cons {e : Ex} {r : Exs} : denTs k (.cons e r) c = (den k e).t c := by rw [denTs]
theorem os_nil : denO k .nil c = .ok none c := by rw [denO]
theorem os_cons {e : Ex} {r : Exs} : denO k (.cons e r) c = bndR (peR k e c) := by rw [denO] <;> rfl
noncomputable def anV (k : Call) (b : Ex) (m : Bx b) (x : Rs D) : Rs W := x.bind fun d c => match d with
  | .bool t => if t then (den k b).v c else .ok (.val (.bool false)) c
  | _ => .no
theorem anV_ok {k : Call} {b : Ex} {m : Bx b} {t : Bool} : anV k b m (.ok (.bool t) c) = if t then (den k b).v c else .ok (.val (.bool false)) c := rfl
theorem anV_ex {k : Call} {b : Ex} {m : Bx b} {x : Exn} : anV k b m (.ex x c) = .ex x c := rfl
theorem anV_no {k : Call} {b : Ex} {m : Bx b} : anV k b m .no = .no := rfl
theorem anV_if {k : Call} {b : Ex} {m : Bx b} {p : Prop} [Decidable p] {a1 a2 : Rs D} : anV k b m (if p then a1 else a2) = if p then anV k b m a1 else anV k b m a2 := by split <;> rfl
noncomputable def orV (k : Call) (b : Ex) (m : Bx b) (x : Rs D) : Rs W := x.bind fun d c => match d with
  | .bool t => if t then .ok (.val (.bool true)) c else (den k b).v c
  | _ => .no
theorem orV_ok {k : Call} {b : Ex} {m : Bx b} {t : Bool} : orV k b m (.ok (.bool t) c) = if t then .ok (.val (.bool true)) c else (den k b).v c := rfl
theorem orV_ex {k : Call} {b : Ex} {m : Bx b} {x : Exn} : orV k b m (.ex x c) = .ex x c := rfl
theorem orV_no {k : Call} {b : Ex} {m : Bx b} : orV k b m .no = .no := rfl
theorem orV_if {k : Call} {b : Ex} {m : Bx b} {p : Prop} [Decidable p] {a1 a2 : Rs D} : orV k b m (if p then a1 else a2) = if p then orV k b m a1 else orV k b m a2 := by split <;> rfl
noncomputable def anT (k : Call) (b : Ex) (m : Bx b) (x : Rs Bool) : Rs Bool := x.bind fun t c => if t then (den k b).t c else .ok false c
theorem anT_ok {k : Call} {b : Ex} {m : Bx b} {t : Bool} : anT k b m (.ok t c) = if t then (den k b).t c else .ok false c := rfl
theorem anT_ex {k : Call} {b : Ex} {m : Bx b} {x : Exn} : anT k b m (.ex x c) = .ex x c := rfl
theorem anT_no {k : Call} {b : Ex} {m : Bx b} : anT k b m .no = .no := rfl
theorem anT_if {k : Call} {b : Ex} {m : Bx b} {p : Prop} [Decidable p] {a1 a2 : Rs Bool} : anT k b m (if p then a1 else a2) = if p then anT k b m a1 else anT k b m a2 := by split <;> rfl
noncomputable def orT (k : Call) (b : Ex) (m : Bx b) (x : Rs Bool) : Rs Bool := x.bind fun t c => if t then .ok true c else (den k b).t c
theorem orT_ok {k : Call} {b : Ex} {m : Bx b} {t : Bool} : orT k b m (.ok t c) = if t then .ok true c else (den k b).t c := rfl
theorem orT_ex {k : Call} {b : Ex} {m : Bx b} {x : Exn} : orT k b m (.ex x c) = .ex x c := rfl
theorem orT_no {k : Call} {b : Ex} {m : Bx b} : orT k b m .no = .no := rfl
theorem orT_if {k : Call} {b : Ex} {m : Bx b} {p : Prop} [Decidable p] {a1 a2 : Rs Bool} : orT k b m (if p then a1 else a2) = if p then orT k b m a1 else orT k b m a2 := by split <;> rfl
theorem v_and {a b : Ex} : (den k (.and a b)).v c = anV k b ⟨⟩ (peR k a c) := by rw [den] <;> rfl
theorem t_and {a b : Ex} : (den k (.and a b)).t c = anT k b ⟨⟩ ((den k a).t c) := by rw [den] <;> rfl
theorem v_or {a b : Ex} : (den k (.or a b)).v c = orV k b ⟨⟩ (peR k a c) := by rw [den] <;> rfl
theorem t_or {a b : Ex} : (den k (.or a b)).t c = orT k b ⟨⟩ ((den k a).t c) := by rw [den] <;> rfl
noncomputable def noV (i : Unit) (x : Rs Bool) : Rs W := x.bind fun t c => .ok (.val (.bool (!t))) c
theorem noV_ok {i : Unit} {t : Bool} : noV i (.ok t c) = .ok (.val (.bool (!t))) c := rfl
theorem noV_ex {i : Unit} {x : Exn} : noV i (.ex x c) = .ex x c := rfl
theorem noV_no {i : Unit} : noV i .no = .no := rfl
theorem noV_if {i : Unit} {p : Prop} [Decidable p] {a1 a2 : Rs Bool} : noV i (if p then a1 else a2) = if p then noV i a1 else noV i a2 := by split <;> rfl
noncomputable def noT (i : Unit) (x : Rs Bool) : Rs Bool := x.bind fun t c => .ok (!t) c
theorem noT_ok {i : Unit} {t : Bool} : noT i (.ok t c) = .ok (!t) c := rfl
theorem noT_ex {i : Unit} {x : Exn} : noT i (.ex x c) = .ex x c := rfl
theorem noT_no {i : Unit} : noT i .no = .no := rfl
theorem noT_if {i : Unit} {p : Prop} [Decidable p] {a1 a2 : Rs Bool} : noT i (if p then a1 else a2) = if p then noT i a1 else noT i a2 := by split <;> rfl
theorem v_not {a : Ex} : (den k (.not a)).v c = noV () (truthR (peR k a c)) := by rw [den] <;> rfl
theorem t_not {a : Ex} : (den k (.not a)).t c = noT () ((den k a).t c) := by rw [den] <;> rfl
noncomputable def iteV (k : Call) (a : Ex) (b : Ex) (m : Bx a) (q : Bx b) (x : Rs Bool) : Rs W := x.bind fun t c => if t then (den k a).v c else (den k b).v c
theorem iteV_ok {k : Call} {a : Ex} {b : Ex} {m : Bx a} {q : Bx b} {t : Bool} : iteV k a b m q (.ok t c) = if t then (den k a).v c else (den k b).v c := rfl
theorem iteV_ex {k : Call} {a : Ex} {b : Ex} {m : Bx a} {q : Bx b} {x : Exn} : iteV k a b m q (.ex x c) = .ex x c := rfl
theorem iteV_no {k : Call} {a : Ex} {b : Ex} {m : Bx a} {q : Bx b} : iteV k a b m q .no = .no := rfl
theorem iteV_if {k : Call} {a : Ex} {b : Ex} {m : Bx a} {q : Bx b} {p : Prop} [Decidable p] {a1 a2 : Rs Bool} : iteV k a b m q (if p then a1 else a2) = if p then iteV k a b m q a1 else iteV k a b m q a2 := by split <;> rfl
noncomputable def iteT (k : Call) (a : Ex) (b : Ex) (m : Bx a) (q : Bx b) (x : Rs Bool) : Rs Bool := x.bind fun t c => if t then (den k a).t c else (den k b).t c
theorem iteT_ok {k : Call} {a : Ex} {b : Ex} {m : Bx a} {q : Bx b} {t : Bool} : iteT k a b m q (.ok t c) = if t then (den k a).t c else (den k b).t c := rfl
theorem iteT_ex {k : Call} {a : Ex} {b : Ex} {m : Bx a} {q : Bx b} {x : Exn} : iteT k a b m q (.ex x c) = .ex x c := rfl
theorem iteT_no {k : Call} {a : Ex} {b : Ex} {m : Bx a} {q : Bx b} : iteT k a b m q .no = .no := rfl
theorem iteT_if {k : Call} {a : Ex} {b : Ex} {m : Bx a} {q : Bx b} {p : Prop} [Decidable p] {a1 a2 : Rs Bool} : iteT k a b m q (if p then a1 else a2) = if p then iteT k a b m q a1 else iteT k a b m q a2 := by split <;> rfl
theorem v_ite {x a b : Ex} : (den k (.ite x a b)).v c = iteV k a b ⟨⟩ ⟨⟩ ((den k x).t c) := by rw [den] <;> rfl
theorem t_ite {x a b : Ex} : (den k (.ite x a b)).t c = iteT k a b ⟨⟩ ⟨⟩ ((den k x).t c) := by rw [den] <;> rfl
noncomputable def chnR (k : Call) (es : Exs) (ps : List P) (m : Bx es) (x : Rs D) : Rs W := x.bind fun d c => denC k es ps d c
theorem chnR_ok {k : Call} {es : Exs} {ps : List P} {m : Bx es} {d : D} : chnR k es ps m (.ok d c) = denC k es ps d c := rfl
theorem chnR_ex {k : Call} {es : Exs} {ps : List P} {m : Bx es} {x : Exn} : chnR k es ps m (.ex x c) = .ex x c := rfl
theorem chnR_no {k : Call} {es : Exs} {ps : List P} {m : Bx es} : chnR k es ps m .no = .no := rfl
theorem chnR_if {k : Call} {es : Exs} {ps : List P} {m : Bx es} {p : Prop} [Decidable p] {a1 a2 : Rs D} : chnR k es ps m (if p then a1 else a2) = if p then chnR k es ps m a1 else chnR k es ps m a2 := by split <;> rfl
theorem v_chn {ps : List P} {a : Ex} {es : Exs} : (den k (.chn ps a es)).v c = chnR k es ps ⟨⟩ (peR k a c) := by rw [den] <;> rfl
noncomputable def chB (k : Call) (r : Exs) (ps : List P) (a : D) (m : Bx r) (x : Rs D) : Rs W := x.bind fun b c => match ps with
  | [] => .no
  | p :: ps => chainR (prim p [a, b]) ps.isEmpty (denC k r ps b) c
theorem chB_ok {r : Exs} {p : P} {ps : List P} {a b : D} {m : Bx r} : chB k r (p :: ps) a m (.ok b c) = chainR (prim p [a, b]) ps.isEmpty (denC k r ps b) c := rfl
theorem chB_ex {r : Exs} {ps : List P} {a : D} {m : Bx r} {x : Exn} : chB k r ps a m (.ex x c) = .ex x c := rfl
theorem chB_no {r : Exs} {ps : List P} {a : D} {m : Bx r} : chB k r ps a m .no = .no := rfl
theorem c_nil {ps : List P} {a : D} : denC k .nil ps a c = .no := by rw [denC]
theorem c_cons {e : Ex} {r : Exs} {ps : List P} {a : D} : denC k (.cons e r) ps a c = chB k r ps a ⟨⟩ (peR k e c) := by rw [denC] <;> rfl
noncomputable def slC (d : D) (lo : Option Int) (x : Rs (Option Int)) : Rs W := x.bind fun hi c => optR (sliceD d lo hi) c
theorem slC_ok {d : D} {lo : Option Int} {hi : Option Int} : slC d lo (.ok hi c) = optR (sliceD d lo hi) c := rfl
theorem slC_ex {d : D} {lo : Option Int} {x : Exn} : slC d lo (.ex x c) = .ex x c := rfl
theorem slC_no {d : D} {lo : Option Int} : slC d lo .no = .no := rfl
theorem slC_if {d : D} {lo : Option Int} {p : Prop} [Decidable p] {a1 a2 : Rs (Option Int)} : slC d lo (if p then a1 else a2) = if p then slC d lo a1 else slC d lo a2 := by split <;> rfl
noncomputable def slB (k : Call) (d : D) (hi : Exs) (m : Bx hi) (x : Rs (Option Int)) : Rs W := x.bind fun lo c => (denO k hi c).bind fun hi c => optR (sliceD d lo hi) c
theorem slB_ok {k : Call} {d : D} {hi : Exs} {m : Bx hi} {lo : Option Int} : slB k d hi m (.ok lo c) = slC d lo (denO k hi c) := rfl
theorem slB_ex {k : Call} {d : D} {hi : Exs} {m : Bx hi} {x : Exn} : slB k d hi m (.ex x c) = .ex x c := rfl
theorem slB_no {k : Call} {d : D} {hi : Exs} {m : Bx hi} : slB k d hi m .no = .no := rfl
theorem slB_if {k : Call} {d : D} {hi : Exs} {m : Bx hi} {p : Prop} [Decidable p] {a1 a2 : Rs (Option Int)} : slB k d hi m (if p then a1 else a2) = if p then slB k d hi m a1 else slB k d hi m a2 := by split <;> rfl
noncomputable def slR (k : Call) (lo : Exs) (hi : Exs) (m : Bx lo) (q : Bx hi) (x : Rs D) : Rs W := x.bind fun d c => (denO k lo c).bind fun lo c => (denO k hi c).bind fun hi c => optR (sliceD d lo hi) c
theorem slR_ok {k : Call} {lo : Exs} {hi : Exs} {m : Bx lo} {q : Bx hi} {d : D} : slR k lo hi m q (.ok d c) = slB k d hi ⟨⟩ (denO k lo c) := rfl
theorem slR_ex {k : Call} {lo : Exs} {hi : Exs} {m : Bx lo} {q : Bx hi} {x : Exn} : slR k lo hi m q (.ex x c) = .ex x c := rfl
theorem slR_no {k : Call} {lo : Exs} {hi : Exs} {m : Bx lo} {q : Bx hi} : slR k lo hi m q .no = .no := rfl
theorem slR_if {k : Call} {lo : Exs} {hi : Exs} {m : Bx lo} {q : Bx hi} {p : Prop} [Decidable p] {a1 a2 : Rs D} : slR k lo hi m q (if p then a1 else a2) = if p then slR k lo hi m q a1 else slR k lo hi m q a2 := by split <;> rfl
theorem v_slc {e : Ex} {lo hi : Exs} : (den k (.slc e lo hi)).v c = slR k lo hi ⟨⟩ ⟨⟩ (peR k e c) := by rw [den] <;> rfl
noncomputable def ccR (c : Cfg) : Option (Sum W Exn) → Rs W
  | some (.inl w) => .ok w c
  | some (.inr x) => .ex x c
  | none => .no
theorem ccR_l {w : W} : ccR c (some (.inl w)) = .ok w c := rfl
theorem ccR_r {x : Exn} : ccR c (some (.inr x)) = .ex x c := rfl
theorem ccR_n : ccR c none = .no := rfl
noncomputable def caR (k : Call) (f : Nat) (x : Rs (List D)) : Rs W := x.bind fun ds c => match k.f f ds with
  | some (.inl w) => .ok w c
  | some (.inr x) => .ex x c
  | none => .no
theorem caR_ok {k : Call} {f : Nat} {l : List D} : caR k f (.ok l c) = ccR c (k.f f l) := rfl
theorem caR_ex {k : Call} {f : Nat} {x : Exn} : caR k f (.ex x c) = .ex x c := rfl
theorem caR_no {k : Call} {f : Nat} : caR k f .no = .no := rfl
theorem caR_if {k : Call} {f : Nat} {p : Prop} [Decidable p] {a1 a2 : Rs (List D)} : caR k f (if p then a1 else a2) = if p then caR k f a1 else caR k f a2 := by split <;> rfl
noncomputable def cdR (k : Call) (f : Nat) (i : Int) (x : Rs (List D)) : Rs W := x.bind fun ds c => match k.f f (ds ++ [.int i]) with
  | some (.inl w) => .ok w c
  | some (.inr x) => .ex x c
  | none => .no
theorem cdR_ok {k : Call} {f : Nat} {i : Int} {l : List D} : cdR k f i (.ok l c) = ccR c (k.f f (l ++ [.int i])) := rfl
theorem cdR_ex {k : Call} {f : Nat} {i : Int} {x : Exn} : cdR k f i (.ex x c) = .ex x c := rfl
theorem cdR_no {k : Call} {f : Nat} {i : Int} : cdR k f i .no = .no := rfl
theorem cdR_if {k : Call} {f : Nat} {i : Int} {p : Prop} [Decidable p] {a1 a2 : Rs (List D)} : cdR k f i (if p then a1 else a2) = if p then cdR k f i a1 else cdR k f i a2 := by split <;> rfl
theorem v_call {f : Nat} {es : Exs} : (den k (.call f es)).v c = caR k f (denVs k es c) := by rw [den] <;> rfl
theorem v_callK {f : Nat} {kw : Str} {es : Exs} : (den k (.callK f kw es)).v c = caR k f (denVs k es c) := by rw [den] <;> rfl
theorem v_callD {f : Nat} {es : Exs} {i : Int} : (den k (.callD f es i)).v c = cdR k f i (denVs k es c) := by rw [den] <;> rfl
noncomputable def cmR (k : Call) (elt : Ex) (tg : List Nat) (cnd : Exs) (m : Bx elt) (q : Bx cnd) (x : Rs (List D)) : Rs W := x.bind fun items c => if savable tg c then (noX (compL tg (denTs k cnd) (fun c => frzR ((den k elt).v c)) items c)).bind fun ds c' => .ok (.own ds) (restore c tg c') else .no
theorem cmR_ok {k : Call} {elt : Ex} {tg : List Nat} {cnd : Exs} {m : Bx elt} {q : Bx cnd} {l : List D} : cmR k elt tg cnd m q (.ok l c) = if savable tg c then (noX (compL tg (denTs k cnd) (fun c => frzR ((den k elt).v c)) l c)).bind fun ds c' => .ok (.own ds) (restore c tg c') else .no := rfl
theorem cmR_ex {k : Call} {elt : Ex} {tg : List Nat} {cnd : Exs} {m : Bx elt} {q : Bx cnd} {x : Exn} : cmR k elt tg cnd m q (.ex x c) = .ex x c := rfl
theorem cmR_no {k : Call} {elt : Ex} {tg : List Nat} {cnd : Exs} {m : Bx elt} {q : Bx cnd} : cmR k elt tg cnd m q .no = .no := rfl
theorem cmR_if {k : Call} {elt : Ex} {tg : List Nat} {cnd : Exs} {m : Bx elt} {q : Bx cnd} {p : Prop} [Decidable p] {a1 a2 : Rs (List D)} : cmR k elt tg cnd m q (if p then a1 else a2) = if p then cmR k elt tg cnd m q a1 else cmR k elt tg cnd m q a2 := by split <;> rfl
noncomputable def cxR (k : Call) (elt : Ex) (tg : List Nat) (cnd : Exs) (m : Bx elt) (q : Bx cnd) (x : Rs (List D)) : Rs W := x.bind fun items c => if savable tg c then endC c tg (compL tg (denTs k cnd) (fun c => frzR ((den k elt).v c)) items c) else .no
theorem cxR_ok {k : Call} {elt : Ex} {tg : List Nat} {cnd : Exs} {m : Bx elt} {q : Bx cnd} {l : List D} : cxR k elt tg cnd m q (.ok l c) = if savable tg c then endC c tg (compL tg (denTs k cnd) (fun c => frzR ((den k elt).v c)) l c) else .no := rfl
theorem cxR_ex {k : Call} {elt : Ex} {tg : List Nat} {cnd : Exs} {m : Bx elt} {q : Bx cnd} {x : Exn} : cxR k elt tg cnd m q (.ex x c) = .ex x c := rfl
theorem cxR_no {k : Call} {elt : Ex} {tg : List Nat} {cnd : Exs} {m : Bx elt} {q : Bx cnd} : cxR k elt tg cnd m q .no = .no := rfl
theorem cxR_if {k : Call} {elt : Ex} {tg : List Nat} {cnd : Exs} {m : Bx elt} {q : Bx cnd} {p : Prop} [Decidable p] {a1 a2 : Rs (List D)} : cxR k elt tg cnd m q (if p then a1 else a2) = if p then cxR k elt tg cnd m q a1 else cxR k elt tg cnd m q a2 := by split <;> rfl
theorem v_comp {elt : Ex} {tg : List Nat} {ik : ItK} {es cnd : Exs} : (den k (.comp elt tg ik es cnd)).v c = cmR k elt tg cnd ⟨⟩ ⟨⟩ (itR ik (denVs k es c)) := by rw [den] <;> rfl
theorem v_compX {elt : Ex} {tg : List Nat} {ik : ItK} {es cnd : Exs} : (den k (.compX elt tg ik es cnd)).v c = cxR k elt tg cnd ⟨⟩ ⟨⟩ (itR ik (denVs k es c)) := by rw [den] <;> rfl
theorem v_isx {x : XC} {i : Nat} : (den k (.isx x i)).v c = (match getS c i with
      | some (.exc c' _) => .ok (.val (.bool (subX c' x))) c
      | _ => .no) := by rw [den] <;> rfl
theorem v_fld {i : Nat} {f : Str} : (den k (.fld i f)).v c = (match getS c i with
      | some (.exc c' (some d)) => if xf c' = f then .ok (.val d) c else .no
      | _ => .no) := by rw [den] <;> rfl
theorem v_inD {x : Str} {ks : List Str} {neg : Bool} {e : Ex} : (den k (.inD x ks neg e)).v c = ((peR k e c).bind fun d c => match d with
      | .str s => .ok (.val (.bool (if neg then !decide (s ∈ ks) else decide (s ∈ ks)))) c
      | _ => .no) := by rw [den] <;> rfl
theorem v_getD {x : Str} {kvs : List (Str × D)} {e : Ex} : (den k (.getD x kvs e)).v c = ((peR k e c).bind fun d c => match d with
      | .str s => (match kvs.lookup s with
        | some d => .ok (.val d) c
        | none => .no)
      | _ => .no) := by rw [den] <;> rfl
theorem v_keysS {x : Str} {ks : List Str} : (den k (.keysS x ks)).v c = (.ok (.own (ks.map .str)) c) := by rw [den] <;> rfl
theorem v_fldO {i : Nat} {f : Str} : (den k (.fldO i f)).v c = (match getO c i with
      | some o => (match ofF o f with
        | some (.val d) => .ok (.val d) c
        | _ => .no)
      | none => .no) := by rw [den] <;> rfl
theorem v_ixF {i : Nat} {f : Str} {j : Nat} {n : Int} : (den k (.ixF i f j n)).v c = (match atF c i f j n with
      | some (_, ds, k) => (match ixD ds k with
        | some d => .ok (.val d) c
        | none => .no)
      | none => .no) := by rw [den] <;> rfl
theorem v_mth {i : Nat} {cn : Str} {m : Str} {f : Nat} {es : Exs} : (den k (.mth i cn m f es)).v c = (match getO c i with
      | some o => if decide (o.c = cn) && (ofF o m).isNone then (denVs k es c).bind fun ds c => (match getO c i with
        | some o => if soleO i 0 c.env then mthR (k.m f o ds) i c else .no
        | none => .no) else .no
      | none => .no) := by rw [den] <;> rfl
theorem v_mthN {i : Nat} {f : Nat} {es : Exs} : (den k (.mthN i f es)).v c = (match getO c i with
      | some _ => (denVs k es c).bind fun ds c => (match getO c i with
        | some o => if soleO i 0 c.env then mthR (k.m f o ds) i c else .no
        | none => .no)
      | none => .no) := by rw [den] <;> rfl
theorem v_newm {q : Str} {ini : List (Str × Fi)} {m : Str} {f : Nat} {as : List (Nat × Bool)} : (den k (.newm q ini m f as)).v c = (match iniO q ini [], atsD c as with
      | some o, some ds => if (ofF o m).isNone then (match k.m f o ds with
        | some (.inl w, _) => .ok w c
        | some (.inr x, _) => .ex x c
        | none => .no) else .no
      | _, _ => .no) := by rw [den] <;> rfl
theorem v_ixL {i : Nat} {e : Ex} : (den k (.ixL i e)).v c = (match getL c i with
      | some _ => (frzR ((den k e).v c)).bind fun d c => (match getL c i, d with
        | some (_, ds), .int j => optR ((ixD ds j).map .val) c
        | _, _ => .no)
      | none => .no) := by rw [den] <;> rfl
theorem v_mthL {i : Nat} {f : Nat} {a : Ex} {b : Ex} : (den k (.mthL i f a b)).v c = (match getL c i with
      | some _ => (frzR ((den k a).v c)).bind fun d0 c => (frzR ((den k b).v c)).bind fun d2 c => (match getL c i with
        | some (q, ds) => if soleO i 0 c.env then lntR (k.l f d0 ds d2) i q c else .no
        | none => .no)
      | none => .no) := by rw [den] <;> rfl
theorem xs_disp {i : Nat} {x : Str} {kfs : List (Str × Nat)} {e : Ex} {es : Exs} : exSs k (.disp i x kfs e es) c = ((peR k e c).bind fun d c => match d with
      | .str s => (match kfs.lookup s with
        | some f => if i < c.env.length then (denVs k es (setS c i none)).bind fun ds c => (match k.f f ds with
          | some (.inl w) => .ok (.rt w) c
          | some (.inr x) => .ex x c
          | none => .no) else .no
        | none => .no)
      | _ => .no) := by rw [exSs] <;> rfl
theorem xh_nil {x : Exn} : exHs k .nil x c = .ex x c := by rw [exHs]
noncomputable def hcR (k : Call) (b : Ss) (_ : Bx b) (x : Exn) (c : Cfg) : Option Nat → Rs Fl
  | none => noX (exSs k b c)
  | some i => if noExc c && decide (i < c.env.length) then (noX (exSs k b (setS c i (some (.exc x.c x.p))))).bind fun f c => if noExc (setS c i none) then .ok f (setS c i none) else .no else .no
theorem hcR_n {b : Ss} {m : Bx b} {x : Exn} : hcR k b m x c none = noX (exSs k b c) := rfl
theorem hcR_s {b : Ss} {m : Bx b} {x : Exn} {i : Nat} : hcR k b m x c (some i) = if noExc c && decide (i < c.env.length) then (noX (exSs k b (setS c i (some (.exc x.c x.p))))).bind fun f c => if noExc (setS c i none) then .ok f (setS c i none) else .no else .no := rfl
theorem xh_cons {h : XC} {as : Option Nat} {b : Ss} {r : Hs} {x : Exn} : exHs k (.cons h as b r) x c = if subX x.c h then hcR k b ⟨⟩ x c as else exHs k r x c := by cases as <;> rw [exHs] <;> rfl
theorem run_F {np ns : Nat} {b : Ss} {as : List D} : runF k ⟨np, ns, b⟩ as = if as.length = np then finR (exSs k b ⟨as.map (fun d => some (.val d)) ++ List.replicate (ns - np) none⟩) else none := rfl
end
end Rp

/-! Tm: functions of the program, as data; their places and parts. -/
namespace Rp
open PySem
inductive Tm where
  | nought (m : Nat) | next | place (m i : Nat) | put (f : Tm) (gs : List Tm) | round (a b : Tm)
noncomputable abbrev zN : Str := ⟨#[110, 111, 117, 103, 104, 116]⟩
noncomputable abbrev zX : Str := ⟨#[110, 101, 120, 116]⟩
noncomputable abbrev zP : Str := ⟨#[112, 108, 97, 99, 101]⟩
noncomputable abbrev zU : Str := ⟨#[112, 117, 116]⟩
noncomputable abbrev zR : Str := ⟨#[114, 111, 117, 110, 100]⟩
mutual
noncomputable def Tm.d : Tm → D
  | .nought m => .tuple [.str zN, .int m]
  | .next => .tuple [.str zX]
  | .place m i => .tuple [.str zP, .int m, .int i]
  | .put f gs => .tuple [.str zU, f.d, .tuple (Tm.ds gs)]
  | .round a b => .tuple [.str zR, a.d, b.d]
noncomputable def Tm.ds : List Tm → List D
  | [] => []
  | g :: gs => g.d :: Tm.ds gs
end
mutual
/-- how many parts -/
noncomputable def Tm.sz : Tm → Nat
  | .nought _ => 1
  | .next => 1
  | .place _ _ => 1
  | .put f gs => 1 + f.sz + Tm.szs gs
  | .round a b => 1 + a.sz + b.sz
noncomputable def Tm.szs : List Tm → Nat
  | [] => 0
  | g :: gs => g.sz + Tm.szs gs
end
mutual
/-- how deep -/
noncomputable def Tm.dep : Tm → Nat
  | .nought _ => 1
  | .next => 1
  | .place _ _ => 1
  | .put f gs => 1 + max f.dep (Tm.deps gs)
  | .round a b => 1 + max a.dep b.dep
noncomputable def Tm.deps : List Tm → Nat
  | [] => 0
  | g :: gs => max g.dep (Tm.deps gs)
end
mutual
/-- a function: its places -/
noncomputable def Tm.ar : Tm → Option Nat
  | .nought m => if m ≤ 4 then some m else none
  | .next => some 1
  | .place m i => if 1 ≤ m ∧ m ≤ 4 ∧ i < m then some m else none
  | .put f gs => match f.ar with
    | some k => if k ≠ 0 ∧ k = gs.length then Tm.ars none gs else none
    | none => none
  | .round a b => match a.ar with
    | some x => if x < 4 then (match b.ar with
      | some y => if y = x + 2 then some (x + 1) else none
      | none => none) else none
    | none => none
/-- the places that all have -/
noncomputable def Tm.ars : Option Nat → List Tm → Option Nat
  | m, [] => m
  | m, g :: gs => match g.ar with
    | some k => (match m with
      | none => Tm.ars (some k) gs
      | some j => if k = j then Tm.ars (some k) gs else none)
    | none => none
end
mutual
theorem Tm.sz_pos : ∀ t : Tm, 0 < t.sz
  | .nought _ => by simp [Tm.sz]
  | .next => by simp [Tm.sz]
  | .place _ _ => by simp [Tm.sz]
  | .put f gs => by simp [Tm.sz]; omega
  | .round a b => by simp [Tm.sz]; omega
end
theorem Tm.szs_len : ∀ ts : List Tm, ts.length ≤ Tm.szs ts
  | [] => by simp [Tm.szs]
  | g :: gs => by simp [Tm.szs]; have := Tm.sz_pos g; have := Tm.szs_len gs; omega
mutual
theorem Tm.dep_sz : ∀ t : Tm, t.dep ≤ t.sz
  | .nought _ => by simp [Tm.sz, Tm.dep]
  | .next => by simp [Tm.sz, Tm.dep]
  | .place _ _ => by simp [Tm.sz, Tm.dep]
  | .put f gs => by simp only [Tm.sz, Tm.dep]; have := Tm.dep_sz f; have := Tm.deps_szs gs; omega
  | .round a b => by simp only [Tm.sz, Tm.dep]; have := Tm.dep_sz a; have := Tm.dep_sz b; omega
theorem Tm.deps_szs : ∀ ts : List Tm, Tm.deps ts ≤ Tm.szs ts
  | [] => by simp [Tm.szs, Tm.deps]
  | g :: gs => by simp only [Tm.szs, Tm.deps]; have := Tm.dep_sz g; have := Tm.deps_szs gs; omega
end
theorem Tm.ds_len : ∀ ts : List Tm, (Tm.ds ts).length = ts.length
  | [] => rfl
  | g :: gs => by simp only [Tm.ds, List.length_cons, Tm.ds_len gs]
theorem Tm.ds_map : ∀ ts : List Tm, Tm.ds ts = ts.map Tm.d
  | [] => rfl
  | g :: gs => by simp only [Tm.ds, List.map_cons, Tm.ds_map gs]
/-- the first place is within 4 -/
theorem Tm.ar_le : ∀ {t : Tm} {m : Nat}, t.ar = some m → m ≤ 4 := by
  have key : ∀ n, (∀ t : Tm, t.sz ≤ n → ∀ m, t.ar = some m → m ≤ 4) := by
    intro n
    induction n with
    | zero => intro t h; have := Tm.sz_pos t; omega
    | succ n ih =>
      intro t h m e
      cases t with
      | nought k => simp only [Tm.ar] at e; split at e <;> simp_all
      | next => simp only [Tm.ar] at e; cases e; omega
      | place k i => simp only [Tm.ar] at e; split at e <;> simp_all
      | put f gs =>
        simp only [Tm.ar] at e
        simp only [Tm.sz] at h
        split at e
        · split at e
          · have go : ∀ (gs : List Tm) (o : Option Nat) (m : Nat), Tm.szs gs ≤ n → (∀ k, o = some k → k ≤ 4) → Tm.ars o gs = some m → m ≤ 4 := by
              intro gs
              induction gs with
              | nil => intro o m _ ho e; simp only [Tm.ars] at e; exact ho m e
              | cons g gs ihg =>
                intro o m hs ho e
                simp only [Tm.szs] at hs
                simp only [Tm.ars] at e
                cases eg : g.ar with
                | none => rw [eg] at e; cases e
                | some k =>
                  rw [eg] at e
                  have hk := ih g (by omega) k eg
                  cases o with
                  | none => exact ihg (some k) m (by omega) (fun j hj => by cases hj; exact hk) e
                  | some j =>
                    dsimp only at e
                    split at e
                    · exact ihg (some k) m (by omega) (fun j hj => by cases hj; exact hk) e
                    · cases e
            exact go gs none m (by omega) (fun k hk => by cases hk) e
          · cases e
        · cases e
      | round a b =>
        simp only [Tm.ar] at e
        simp only [Tm.sz] at h
        split at e
        · rename_i x ex
          split at e
          · split at e
            · rename_i y ey
              split at e
              · cases e
                have := ih b (by omega) y ey
                omega
              · cases e
            · cases e
          · cases e
        · cases e
  intro t m e
  exact key t.sz t (Nat.le_refl _) m e

mutual
/-- as the program looks: so many parts left -/
noncomputable def Tm.po : Tm → Nat → Option (Nat × Nat)
  | t, 0 => none
  | .nought m, l + 1 => if m ≤ 4 then some (m, l) else none
  | .next, l + 1 => some (1, l)
  | .place m i, l + 1 => if 1 ≤ m ∧ m ≤ 4 ∧ i < m then some (m, l) else none
  | .put f gs, l + 1 => match f.po l with
    | some (k, l') => if k ≠ 0 ∧ k = gs.length then Tm.pos none gs l' else none
    | none => none
  | .round a b, l + 1 => match a.po l with
    | some (x, l') => if x < 4 then (match b.po l' with
      | some (y, l'') => if y = x + 2 then some (x + 1, l'') else none
      | none => none) else none
    | none => none
noncomputable def Tm.pos : Option Nat → List Tm → Nat → Option (Nat × Nat)
  | m, [], l => m.map fun m => (m, l)
  | m, g :: gs, l => match g.po l with
    | some (k, l') => (match m with
      | none => Tm.pos (some k) gs l'
      | some j => if k = j then Tm.pos (some k) gs l' else none)
    | none => none
end
noncomputable def fitO (o : Option Nat) (s l : Nat) : Option (Nat × Nat) := match o with
  | some m => if s ≤ l then some (m, l - s) else none
  | none => none
mutual
theorem Tm.po_eq : ∀ (t : Tm) (l : Nat), t.po l = fitO t.ar t.sz l
  | .nought m, 0 => by simp only [Tm.po, Tm.ar, Tm.sz, fitO]; split <;> simp
  | .nought m, l + 1 => by simp only [Tm.po, Tm.ar, Tm.sz, fitO]; split <;> simp
  | .next, 0 => by simp [Tm.po, Tm.ar, Tm.sz, fitO]
  | .next, l + 1 => by simp [Tm.po, Tm.ar, Tm.sz, fitO]
  | .place m i, 0 => by simp only [Tm.po, Tm.ar, Tm.sz, fitO]; split <;> simp
  | .place m i, l + 1 => by simp only [Tm.po, Tm.ar, Tm.sz, fitO]; split <;> simp
  | .put f gs, 0 => by
    have hp := Tm.sz_pos (.put f gs)
    simp only [Tm.po]
    unfold fitO
    split
    · rw [if_neg (by omega)]
    · rfl
  | .put f gs, l + 1 => by
    simp only [Tm.po, Tm.sz, Tm.po_eq f l, Tm.ar]
    cases ef : f.ar with
    | none => rfl
    | some k =>
      simp only [fitO]
      by_cases h : f.sz ≤ l
      · rw [if_pos h]
        dsimp only
        by_cases hk : k ≠ 0 ∧ k = gs.length
        · rw [if_pos hk, if_pos hk, Tm.pos_eq gs none (l - f.sz)]
          unfold fitO
          cases Tm.ars none gs with
          | none => rfl
          | some m =>
            dsimp only
            by_cases h2 : Tm.szs gs ≤ l - f.sz
            · rw [if_pos h2, if_pos (by omega)]
              congr 2
              omega
            · rw [if_neg h2, if_neg (by omega)]
        · rw [if_neg hk, if_neg hk]
      · rw [if_neg h]
        dsimp only
        split
        · rw [if_neg (by omega)]
        · rfl
  | .round a b, 0 => by
    have hp := Tm.sz_pos (.round a b)
    simp only [Tm.po]
    unfold fitO
    split
    · rw [if_neg (by omega)]
    · rfl
  | .round a b, l + 1 => by
    simp only [Tm.po, Tm.sz, Tm.po_eq a l, Tm.ar]
    cases ea : a.ar with
    | none => rfl
    | some x =>
      simp only [fitO]
      by_cases h : a.sz ≤ l
      · rw [if_pos h]
        dsimp only
        by_cases hx : x < 4
        · rw [if_pos hx, if_pos hx, Tm.po_eq b]
          cases eb : b.ar with
          | none => rfl
          | some y =>
            simp only [fitO]
            by_cases h2 : b.sz ≤ l - a.sz
            · rw [if_pos h2]
              dsimp only
              by_cases hy : y = x + 2
              · rw [if_pos hy, if_pos hy]
                dsimp only
                rw [if_pos (by omega)]
                congr 2
                omega
              · rw [if_neg hy, if_neg hy]
            · rw [if_neg h2]
              dsimp only
              split
              · rw [if_neg (by omega)]
              · rfl
        · rw [if_neg hx, if_neg hx]
      · rw [if_neg h]
        dsimp only
        split
        · rw [if_neg (by omega)]
        · rfl
theorem Tm.pos_eq : ∀ (gs : List Tm) (m : Option Nat) (l : Nat), Tm.pos m gs l = fitO (Tm.ars m gs) (Tm.szs gs) l
  | [], m, l => by cases m <;> simp [Tm.pos, Tm.ars, Tm.szs, fitO]
  | g :: gs, m, l => by
    simp only [Tm.pos, Tm.ars, Tm.szs, Tm.po_eq g l]
    cases eg : g.ar with
    | none => rfl
    | some k =>
      simp only [fitO]
      by_cases h : g.sz ≤ l
      · rw [if_pos h]
        cases m with
        | none =>
          dsimp only
          rw [Tm.pos_eq gs (some k)]
          unfold fitO
          cases Tm.ars (some k) gs with
          | none => rfl
          | some j =>
            dsimp only
            by_cases h2 : Tm.szs gs ≤ l - g.sz
            · rw [if_pos h2, if_pos (by omega)]
              congr 2
              omega
            · rw [if_neg h2, if_neg (by omega)]
        | some j =>
          dsimp only
          by_cases hk : k = j
          · rw [if_pos hk, if_pos hk, Tm.pos_eq gs (some k)]
            unfold fitO
            cases Tm.ars (some k) gs with
            | none => rfl
            | some j =>
              dsimp only
              by_cases h2 : Tm.szs gs ≤ l - g.sz
              · rw [if_pos h2, if_pos (by omega)]
                congr 2
                omega
              · rw [if_neg h2, if_neg (by omega)]
          · rw [if_neg hk, if_neg hk]
      · rw [if_neg h]
        dsimp only
        cases m with
        | none =>
          dsimp only
          split
          · rw [if_neg (by omega)]
          · rfl
        | some j =>
          dsimp only
          split
          · rw [if_neg (by omega)]
          · rfl
end
end Rp

namespace Rp
open PySem
noncomputable def g_MOST_PARTS : D := (.int 60)
noncomputable def g_MOST_PLACES : D := (.int 4)
noncomputable def g_MOST_NUMBER : D := (.int 999)
noncomputable def g_MOST_STEPS : D := (.int 20000)
noncomputable def g_MOST_BOXES : D := (.int 200)
noncomputable def g_MOST_DEEDS : D := (.int 400)
noncomputable def g_NEXT : D := (.tuple [(.str (⟨#[110, 101, 120, 116]⟩ : Str))])
noncomputable def g_BEFORE : D := (.tuple [(.str (⟨#[114, 111, 117, 110, 100]⟩ : Str)), (.tuple [(.str (⟨#[110, 111, 117, 103, 104, 116]⟩ : Str)), (.int 0)]), (.tuple [(.str (⟨#[112, 108, 97, 99, 101]⟩ : Str)), (.int 2), (.int 0)])])
noncomputable def g_PLUS : D := (.tuple [(.str (⟨#[114, 111, 117, 110, 100]⟩ : Str)), (.tuple [(.str (⟨#[112, 108, 97, 99, 101]⟩ : Str)), (.int 1), (.int 0)]), (.tuple [(.str (⟨#[112, 117, 116]⟩ : Str)), g_NEXT, (.tuple [(.tuple [(.str (⟨#[112, 108, 97, 99, 101]⟩ : Str)), (.int 3), (.int 1)])])])])
noncomputable def g_TIMES : D := (.tuple [(.str (⟨#[114, 111, 117, 110, 100]⟩ : Str)), (.tuple [(.str (⟨#[110, 111, 117, 103, 104, 116]⟩ : Str)), (.int 1)]), (.tuple [(.str (⟨#[112, 117, 116]⟩ : Str)), g_PLUS, (.tuple [(.tuple [(.str (⟨#[112, 108, 97, 99, 101]⟩ : Str)), (.int 3), (.int 1)]), (.tuple [(.str (⟨#[112, 108, 97, 99, 101]⟩ : Str)), (.int 3), (.int 2)])])])])
noncomputable def g_POWER : D := (.tuple [(.str (⟨#[114, 111, 117, 110, 100]⟩ : Str)), (.tuple [(.str (⟨#[112, 117, 116]⟩ : Str)), g_NEXT, (.tuple [(.tuple [(.str (⟨#[110, 111, 117, 103, 104, 116]⟩ : Str)), (.int 1)])])]), (.tuple [(.str (⟨#[112, 117, 116]⟩ : Str)), g_TIMES, (.tuple [(.tuple [(.str (⟨#[112, 108, 97, 99, 101]⟩ : Str)), (.int 3), (.int 1)]), (.tuple [(.str (⟨#[112, 108, 97, 99, 101]⟩ : Str)), (.int 3), (.int 2)])])])])
noncomputable def g_LESS : D := (.tuple [(.str (⟨#[114, 111, 117, 110, 100]⟩ : Str)), (.tuple [(.str (⟨#[112, 108, 97, 99, 101]⟩ : Str)), (.int 1), (.int 0)]), (.tuple [(.str (⟨#[112, 117, 116]⟩ : Str)), g_BEFORE, (.tuple [(.tuple [(.str (⟨#[112, 108, 97, 99, 101]⟩ : Str)), (.int 3), (.int 1)])])])])
noncomputable def g_SIGN : D := (.tuple [(.str (⟨#[114, 111, 117, 110, 100]⟩ : Str)), (.tuple [(.str (⟨#[110, 111, 117, 103, 104, 116]⟩ : Str)), (.int 0)]), (.tuple [(.str (⟨#[112, 117, 116]⟩ : Str)), g_NEXT, (.tuple [(.tuple [(.str (⟨#[110, 111, 117, 103, 104, 116]⟩ : Str)), (.int 2)])])])])
noncomputable def g_EMPTY : D := (.tuple [(.str (⟨#[114, 111, 117, 110, 100]⟩ : Str)), (.tuple [(.str (⟨#[112, 117, 116]⟩ : Str)), g_NEXT, (.tuple [(.tuple [(.str (⟨#[110, 111, 117, 103, 104, 116]⟩ : Str)), (.int 0)])])]), (.tuple [(.str (⟨#[110, 111, 117, 103, 104, 116]⟩ : Str)), (.int 2)])])
noncomputable def g_EVEN : D := (.tuple [(.str (⟨#[114, 111, 117, 110, 100]⟩ : Str)), (.tuple [(.str (⟨#[112, 117, 116]⟩ : Str)), g_NEXT, (.tuple [(.tuple [(.str (⟨#[110, 111, 117, 103, 104, 116]⟩ : Str)), (.int 0)])])]), (.tuple [(.str (⟨#[112, 117, 116]⟩ : Str)), g_EMPTY, (.tuple [(.tuple [(.str (⟨#[112, 108, 97, 99, 101]⟩ : Str)), (.int 2), (.int 1)])])])])
noncomputable def g_MOST : D := (.tuple [(.str (⟨#[112, 117, 116]⟩ : Str)), g_PLUS, (.tuple [(.tuple [(.str (⟨#[112, 108, 97, 99, 101]⟩ : Str)), (.int 2), (.int 0)]), (.tuple [(.str (⟨#[112, 117, 116]⟩ : Str)), g_LESS, (.tuple [(.tuple [(.str (⟨#[112, 108, 97, 99, 101]⟩ : Str)), (.int 2), (.int 0)]), (.tuple [(.str (⟨#[112, 108, 97, 99, 101]⟩ : Str)), (.int 2), (.int 1)])])])])])
noncomputable def g_FIGURES : D := (.str (⟨#[48, 49, 50, 51, 52, 53, 54, 55, 56, 57]⟩ : Str))
noncomputable def g_MOST_TURNS : D := (.int 200)
noncomputable def g_MOST_PAPERS : D := (.int 400)
noncomputable def g_MOST_DEEP : D := (.int 60)
noncomputable def g_MOST_NUMERAL : D := (.int 29)
noncomputable def g_LETTERS : D := (.str (⟨#[97, 98, 99, 100, 101, 102, 103, 104, 105, 106, 107, 108, 109, 110, 111, 112, 113, 114, 115, 116, 117, 118, 119, 120, 121, 122]⟩ : Str))
noncomputable def g_MOST_LETTERS : D := (.int 12)
noncomputable def g_EMPTY_shorter : D := (.tuple [(.str (⟨#[116, 117, 114, 110, 115]⟩ : Str)), (.tuple [])])
noncomputable abbrev F_is_within : Nat := 173
noncomputable abbrev F_places_of : Nat := 207
noncomputable abbrev F_places_put : Nat := 208
noncomputable abbrev F_places_round : Nat := 209
noncomputable abbrev F_is_term : Nat := 172
noncomputable abbrev F_checked : Nat := 159
noncomputable abbrev F_arity : Nat := 145
noncomputable abbrev F__law_cell : Nat := 51
noncomputable abbrev F__law_whole : Nat := 135
noncomputable abbrev F__law_row : Nat := 111
noncomputable abbrev F__law_leaf : Nat := 73
noncomputable abbrev F__law_grown : Nat := 68
noncomputable abbrev F__law_drawn : Nat := 60
noncomputable abbrev F__law_parts : Nat := 99
noncomputable abbrev F__law_size : Nat := 118
noncomputable abbrev F__law_ways : Nat := 134
noncomputable abbrev F__law_with : Nat := 137
noncomputable abbrev F__law_is : Nat := 71
noncomputable abbrev F_law : Nat := 175
noncomputable abbrev F_are_numbers : Nat := 143
noncomputable abbrev F_look_numbers : Nat := 183
noncomputable abbrev F_value : Nat := 241
noncomputable abbrev F__law_places : Nat := 101
noncomputable abbrev F__law_value : Nat := 131
noncomputable abbrev F__law_numbers : Nat := 89
noncomputable abbrev F_Reckoner_value : Nat := 34
noncomputable abbrev F__law_near : Nat := 85
noncomputable abbrev F_checked_program : Nat := 160
noncomputable abbrev F_heard : Nat := 167
noncomputable abbrev F_all_places : Nat := 141
noncomputable abbrev F_made : Nat := 187
noncomputable abbrev F_width : Nat := 244
noncomputable abbrev F_lifted : Nat := 182
noncomputable abbrev F_by_begin : Nat := 148
noncomputable abbrev F_by_more : Nat := 149
noncomputable abbrev F_by_nought : Nat := 150
noncomputable abbrev F_by_place : Nat := 152
noncomputable abbrev F_by_through : Nat := 154
noncomputable abbrev F_by_whole : Nat := 156
noncomputable abbrev F_many_papers : Nat := 191
noncomputable abbrev F_papers_in : Nat := 202
noncomputable abbrev F_read_next : Nat := 216
noncomputable abbrev F_read_paper : Nat := 217
noncomputable abbrev F_Taker_sign : Nat := 38
noncomputable abbrev F_Taker_take : Nat := 39
noncomputable abbrev F_Taker_figure : Nat := 36
noncomputable abbrev F_Taker_term : Nat := 40
noncomputable abbrev F_Taker_put : Nat := 37
noncomputable abbrev F_parts_right : Nat := 205
noncomputable abbrev F_ways_of : Nat := 243
noncomputable abbrev F_part_at : Nat := 204
noncomputable abbrev F_part : Nat := 203
noncomputable abbrev F__law_at : Nat := 45
noncomputable abbrev F_made_of : Nat := 189
noncomputable abbrev F_with_part : Nat := 245
noncomputable abbrev F_looked : Nat := 184
noncomputable abbrev F_changed : Nat := 158
noncomputable abbrev F__law_other : Nat := 95
noncomputable abbrev F__law_changed : Nat := 53
noncomputable abbrev F_done : Nat := 163
noncomputable abbrev F_turns_of : Nat := 240
noncomputable abbrev F_turns : Nat := 239
noncomputable abbrev F__law_lifted : Nat := 76
noncomputable abbrev F__law_ruled : Nat := 112
noncomputable abbrev F__law_turns : Nat := 129
noncomputable abbrev F_turned_at : Nat := 238
noncomputable abbrev F_turned : Nat := 237
noncomputable abbrev F_fixed : Nat := 165
noncomputable abbrev F_gathered : Nat := 166
noncomputable abbrev F_sum_below : Nat := 234
noncomputable abbrev F_many_parts : Nat := 192
noncomputable abbrev F_by_turns : Nat := 155
noncomputable abbrev F_by_parts : Nat := 151
noncomputable abbrev F_at_nought : Nat := 147
noncomputable abbrev F_at_more : Nat := 146
noncomputable abbrev F_by_then : Nat := 153
noncomputable abbrev F_shows : Nat := 230
noncomputable abbrev F_is_paper : Nat := 171
noncomputable abbrev F_shorter : Nat := 227
noncomputable abbrev F_Desk_back : Nat := 17
noncomputable abbrev F__law_refused_by : Nat := 108
noncomputable def k_MADE : List Str := [(⟨#[110, 101, 120, 116]⟩ : Str), (⟨#[98, 101, 102, 111, 114, 101]⟩ : Str), (⟨#[112, 108, 117, 115]⟩ : Str), (⟨#[116, 105, 109, 101, 115]⟩ : Str), (⟨#[112,
  111, 119, 101, 114]⟩ : Str), (⟨#[108, 101, 115, 115]⟩ : Str), (⟨#[115, 105, 103, 110]⟩ : Str), (⟨#[101, 109, 112, 116, 121]⟩ : Str), (⟨#[101, 118, 101, 110]⟩ : Str), (⟨#[109, 111,
  115, 116]⟩ : Str)]
noncomputable def kv_MADE : List (Str × D) := [((⟨#[110, 101, 120, 116]⟩ : Str), g_NEXT), ((⟨#[98, 101, 102, 111, 114, 101]⟩ : Str), g_BEFORE), ((⟨#[112, 108, 117, 115]⟩ : Str), g_PLUS),
  ((⟨#[116, 105, 109, 101, 115]⟩ : Str), g_TIMES), ((⟨#[112, 111, 119, 101, 114]⟩ : Str), g_POWER), ((⟨#[108, 101, 115, 115]⟩ : Str), g_LESS), ((⟨#[115, 105, 103, 110]⟩ : Str),
  g_SIGN), ((⟨#[101, 109, 112, 116, 121]⟩ : Str), g_EMPTY), ((⟨#[101, 118, 101, 110]⟩ : Str), g_EVEN), ((⟨#[109, 111, 115, 116]⟩ : Str), g_MOST)]
noncomputable def k_RULES : List Str := [(⟨#[98, 101, 103, 105, 110]⟩ : Str), (⟨#[109, 111, 114, 101]⟩ : Str), (⟨#[110, 111, 117, 103, 104, 116]⟩ : Str), (⟨#[112, 108, 97, 99, 101]⟩ : Str),
  (⟨#[116, 104, 114, 111, 117, 103, 104]⟩ : Str), (⟨#[119, 104, 111, 108, 101]⟩ : Str)]
noncomputable def s_RULES : List Str := [(⟨#[98, 101, 103, 105, 110]⟩ : Str), (⟨#[109, 111, 114, 101]⟩ : Str), (⟨#[110, 111, 117, 103, 104, 116]⟩ : Str), (⟨#[112, 108, 97, 99, 101]⟩ : Str),
  (⟨#[116, 104, 114, 111, 117, 103, 104]⟩ : Str), (⟨#[119, 104, 111, 108, 101]⟩ : Str)]
noncomputable def kf_RULES : List (Str × Nat) := [((⟨#[98, 101, 103, 105, 110]⟩ : Str), F_by_begin), ((⟨#[109, 111, 114, 101]⟩ : Str), F_by_more), ((⟨#[110, 111, 117, 103, 104, 116]⟩ : Str),
  F_by_nought), ((⟨#[112, 108, 97, 99, 101]⟩ : Str), F_by_place), ((⟨#[116, 104, 114, 111, 117, 103, 104]⟩ : Str), F_by_through), ((⟨#[119, 104, 111, 108, 101]⟩ : Str), F_by_whole)]
noncomputable def ini_Reckoner : List (Str × Fi) := [((⟨#[115, 116, 101, 112, 115]⟩ : Str), .int 0)]
noncomputable def ini_Taker : List (Str × Fi) := [((⟨#[116, 101, 120, 116]⟩ : Str), .par), ((⟨#[97, 116]⟩ : Str), .int 0)]
noncomputable def ini_Desk : List (Str × Fi) := [((⟨#[119, 111, 114, 100, 115]⟩ : Str), .lst), ((⟨#[116, 101, 114, 109, 115]⟩ : Str), .dct), ((⟨#[114, 111, 119, 115]⟩ : Str), .lst)]
noncomputable def f_is_within : Fn := ⟨3, 3, (.cons (.ret (.and (.pr (.isi 0) (.cons (.var 0) .nil)) (.and (.not (.pr (.isi 1) (.cons (.var 0) .nil))) (.chn [.le, .le] (.var 1) (.cons (.var 0)
  (.cons (.var 2) .nil)))))) .nil)⟩
noncomputable def f_places_of : Fn := ⟨2, 2, (.cons (.ifs (.or (.pr .eq (.cons (.var 1) (.cons (.con (.int 0)) .nil))) (.or (.not (.pr (.isi 3) (.cons (.var 0) .nil))) (.or (.not (.var 0)) (.not
  (.pr (.isi 2) (.cons (.pr .ix (.cons (.var 0) (.cons (.con (.int 0)) .nil))) .nil)))))) (.cons (.ret (.con .none)) .nil) .nil) (.cons (.ifs (.and (.pr .eq (.cons (.pr .ix (.cons
  (.var 0) (.cons (.con (.int 0)) .nil))) (.cons (.con (.str (⟨#[110, 111, 117, 103, 104, 116]⟩ : Str))) .nil))) (.and (.pr .eq (.cons (.pr .len (.cons (.var 0) .nil)) (.cons (.con
  (.int 2)) .nil))) (.call F_is_within (.cons (.pr .ix (.cons (.var 0) (.cons (.con (.int 1)) .nil))) (.cons (.con (.int 0)) (.cons (.glo (⟨#[77, 79, 83, 84, 95, 80, 76, 65, 67, 69,
  83]⟩ : Str) g_MOST_PLACES) .nil)))))) (.cons (.ret (.tup (.cons (.pr .ix (.cons (.var 0) (.cons (.con (.int 1)) .nil))) (.cons (.pr .sub (.cons (.var 1) (.cons (.con (.int 1))
  .nil))) .nil)))) .nil) .nil) (.cons (.ifs (.pr .eq (.cons (.var 0) (.cons (.tup (.cons (.con (.str (⟨#[110, 101, 120, 116]⟩ : Str))) .nil)) .nil))) (.cons (.ret (.tup (.cons (.con
  (.int 1)) (.cons (.pr .sub (.cons (.var 1) (.cons (.con (.int 1)) .nil))) .nil)))) .nil) .nil) (.cons (.ifs (.and (.pr .eq (.cons (.pr .ix (.cons (.var 0) (.cons (.con (.int 0))
  .nil))) (.cons (.con (.str (⟨#[112, 108, 97, 99, 101]⟩ : Str))) .nil))) (.and (.pr .eq (.cons (.pr .len (.cons (.var 0) .nil)) (.cons (.con (.int 3)) .nil))) (.call F_is_within
  (.cons (.pr .ix (.cons (.var 0) (.cons (.con (.int 1)) .nil))) (.cons (.con (.int 1)) (.cons (.glo (⟨#[77, 79, 83, 84, 95, 80, 76, 65, 67, 69, 83]⟩ : Str) g_MOST_PLACES)
  .nil)))))) (.cons (.ret (.ite (.call F_is_within (.cons (.pr .ix (.cons (.var 0) (.cons (.con (.int 2)) .nil))) (.cons (.con (.int 0)) (.cons (.pr .sub (.cons (.pr .ix (.cons
  (.var 0) (.cons (.con (.int 1)) .nil))) (.cons (.con (.int 1)) .nil))) .nil)))) (.tup (.cons (.pr .ix (.cons (.var 0) (.cons (.con (.int 1)) .nil))) (.cons (.pr .sub (.cons (.var
  1) (.cons (.con (.int 1)) .nil))) .nil))) (.con .none))) .nil) .nil) (.cons (.ifs (.and (.pr .eq (.cons (.pr .ix (.cons (.var 0) (.cons (.con (.int 0)) .nil))) (.cons (.con (.str
  (⟨#[112, 117, 116]⟩ : Str))) .nil))) (.and (.pr .eq (.cons (.pr .len (.cons (.var 0) .nil)) (.cons (.con (.int 3)) .nil))) (.pr (.isi 3) (.cons (.pr .ix (.cons (.var 0) (.cons
  (.con (.int 2)) .nil))) .nil)))) (.cons (.ret (.call F_places_put (.cons (.var 0) (.cons (.pr .sub (.cons (.var 1) (.cons (.con (.int 1)) .nil))) .nil)))) .nil) .nil) (.cons (.ifs
  (.and (.pr .eq (.cons (.pr .ix (.cons (.var 0) (.cons (.con (.int 0)) .nil))) (.cons (.con (.str (⟨#[114, 111, 117, 110, 100]⟩ : Str))) .nil))) (.pr .eq (.cons (.pr .len (.cons
  (.var 0) .nil)) (.cons (.con (.int 3)) .nil)))) (.cons (.ret (.call F_places_round (.cons (.var 0) (.cons (.pr .sub (.cons (.var 1) (.cons (.con (.int 1)) .nil))) .nil)))) .nil)
  .nil) (.cons (.ret (.con .none)) .nil)))))))⟩
noncomputable def b_places_put_0 : Ss := (.cons (.asg 5 (.call F_places_of (.cons (.var 4) (.cons (.var 1) .nil)))) (.cons (.ifs (.or (.pr .isN (.cons (.var 5) .nil)) (.and (.pr .ntN (.cons (.var
  3) .nil)) (.pr .ne (.cons (.pr .ix (.cons (.var 5) (.cons (.con (.int 0)) .nil))) (.cons (.var 3) .nil))))) (.cons (.ret (.con .none)) .nil) .nil) (.cons (.unp [3, 1] (.var 5))
  .nil)))
noncomputable def f_places_put : Fn := ⟨2, 6, (.cons (.asg 2 (.call F_places_of (.cons (.pr .ix (.cons (.var 0) (.cons (.con (.int 1)) .nil))) (.cons (.var 1) .nil)))) (.cons (.ifs (.or (.pr .isN
  (.cons (.var 2) .nil)) (.or (.pr .eq (.cons (.pr .ix (.cons (.var 2) (.cons (.con (.int 0)) .nil))) (.cons (.con (.int 0)) .nil))) (.pr .ne (.cons (.pr .ix (.cons (.var 2) (.cons
  (.con (.int 0)) .nil))) (.cons (.pr .len (.cons (.pr .ix (.cons (.var 0) (.cons (.con (.int 2)) .nil))) .nil)) .nil))))) (.cons (.ret (.con .none)) .nil) .nil) (.cons (.asg 1 (.pr
  .ix (.cons (.var 2) (.cons (.con (.int 1)) .nil)))) (.cons (.asg 3 (.con .none)) (.cons (.for [4] .seq (.cons (.pr .ix (.cons (.var 0) (.cons (.con (.int 2)) .nil))) .nil)
  b_places_put_0) (.cons (.ret (.tup (.cons (.var 3) (.cons (.var 1) .nil)))) .nil))))))⟩
noncomputable def f_places_round : Fn := ⟨2, 4, (.cons (.asg 2 (.call F_places_of (.cons (.pr .ix (.cons (.var 0) (.cons (.con (.int 1)) .nil))) (.cons (.var 1) .nil)))) (.cons (.ifs (.or (.pr
  .isN (.cons (.var 2) .nil)) (.pr .ge (.cons (.pr .ix (.cons (.var 2) (.cons (.con (.int 0)) .nil))) (.cons (.glo (⟨#[77, 79, 83, 84, 95, 80, 76, 65, 67, 69, 83]⟩ : Str)
  g_MOST_PLACES) .nil)))) (.cons (.ret (.con .none)) .nil) .nil) (.cons (.asg 3 (.call F_places_of (.cons (.pr .ix (.cons (.var 0) (.cons (.con (.int 2)) .nil))) (.cons (.pr .ix
  (.cons (.var 2) (.cons (.con (.int 1)) .nil))) .nil)))) (.cons (.ifs (.or (.pr .isN (.cons (.var 3) .nil)) (.pr .ne (.cons (.pr .ix (.cons (.var 3) (.cons (.con (.int 0)) .nil)))
  (.cons (.pr .add (.cons (.pr .ix (.cons (.var 2) (.cons (.con (.int 0)) .nil))) (.cons (.con (.int 2)) .nil))) .nil)))) (.cons (.ret (.con .none)) .nil) .nil) (.cons (.ret (.tup
  (.cons (.pr .add (.cons (.pr .ix (.cons (.var 2) (.cons (.con (.int 0)) .nil))) (.cons (.con (.int 1)) .nil))) (.cons (.pr .ix (.cons (.var 3) (.cons (.con (.int 1)) .nil)))
  .nil)))) .nil)))))⟩
noncomputable def f_is_term : Fn := ⟨1, 1, (.cons (.ret (.pr .ntN (.cons (.call F_places_of (.cons (.var 0) (.cons (.glo (⟨#[77, 79, 83, 84, 95, 80, 65, 82, 84, 83]⟩ : Str) g_MOST_PARTS) .nil)))
  .nil))) .nil)⟩
noncomputable def f_checked : Fn := ⟨1, 1, (.cons (.ifs (.not (.call F_is_term (.cons (.var 0) .nil))) (.cons (.raise .BadTerm) .nil) .nil) (.cons (.ret (.var 0)) .nil))⟩
noncomputable def f_arity : Fn := ⟨1, 1, (.cons (.ret (.pr .ix (.cons (.call F_places_of (.cons (.call F_checked (.cons (.var 0) .nil)) (.cons (.glo (⟨#[77, 79, 83, 84, 95, 80, 65, 82, 84, 83]⟩ :
  Str) g_MOST_PARTS) .nil))) (.cons (.con (.int 0)) .nil)))) .nil)⟩
noncomputable def b_are_numbers_0 : Ex := (.var 2)
noncomputable def f_are_numbers : Fn := ⟨2, 3, (.cons (.ifs (.or (.not (.pr (.isi 4) (.cons (.var 0) .nil))) (.pr .ne (.cons (.pr .len (.cons (.var 0) .nil)) (.cons (.var 1) .nil)))) (.cons (.ret
  (.con (.bool false))) .nil) .nil) (.cons (.ret (.not (.comp b_are_numbers_0 [2] .seq (.cons (.var 0) .nil) (.cons (.not (.call F_is_within (.cons (.var 2) (.cons (.con (.int 0))
  (.cons (.glo (⟨#[77, 79, 83, 84, 95, 78, 85, 77, 66, 69, 82]⟩ : Str) g_MOST_NUMBER) .nil))))) .nil)))) .nil))⟩
noncomputable def f_look_numbers : Fn := ⟨2, 2, (.cons (.ifs (.not (.call F_are_numbers (.cons (.var 1) (.cons (.call F_arity (.cons (.var 0) .nil)) .nil)))) (.cons (.raise .BadNumbers) .nil)
  .nil) .nil)⟩
noncomputable def f_value : Fn := ⟨2, 2, (.cons (.exp (.call F_look_numbers (.cons (.var 0) (.cons (.var 1) .nil)))) (.cons (.ret (.newm (⟨#[82, 101, 99, 107, 111, 110, 101, 114]⟩ : Str)
  ini_Reckoner (⟨#[118, 97, 108, 117, 101]⟩ : Str) F_Reckoner_value [(0, false), (1, true)])) .nil))⟩
noncomputable def f_parts_right : Fn := ⟨1, 1, (.cons (.ifs (.pr .eq (.cons (.pr .ix (.cons (.var 0) (.cons (.con (.int 0)) .nil))) (.cons (.con (.str (⟨#[112, 117, 116]⟩ : Str))) .nil))) (.cons
  (.ret (.pr .add (.cons (.lst (.cons (.pr .ix (.cons (.var 0) (.cons (.con (.int 1)) .nil))) .nil)) (.cons (.pr .lstO (.cons (.pr .ix (.cons (.var 0) (.cons (.con (.int 2)) .nil)))
  .nil)) .nil)))) .nil) .nil) (.cons (.ifs (.pr .eq (.cons (.pr .ix (.cons (.var 0) (.cons (.con (.int 0)) .nil))) (.cons (.con (.str (⟨#[114, 111, 117, 110, 100]⟩ : Str))) .nil)))
  (.cons (.ret (.lst (.cons (.pr .ix (.cons (.var 0) (.cons (.con (.int 1)) .nil))) (.cons (.pr .ix (.cons (.var 0) (.cons (.con (.int 2)) .nil))) .nil)))) .nil) .nil) (.cons (.ret
  (.lst .nil)) .nil)))⟩
noncomputable def b_part_at_0 : Ss := (.cons (.asg 4 (.call F_parts_right (.cons (.var 2) .nil))) (.cons (.ifs (.not (.call F_is_within (.cons (.var 3) (.cons (.con (.int 0)) (.cons (.pr .sub
  (.cons (.pr .len (.cons (.var 4) .nil)) (.cons (.con (.int 1)) .nil))) .nil))))) (.cons (.ret (.con .none)) .nil) .nil) (.cons (.asg 2 (.pr .ix (.cons (.var 4) (.cons (.var 3)
  .nil)))) .nil)))
noncomputable def f_part_at : Fn := ⟨2, 5, (.cons (.ifs (.not (.pr (.isi 3) (.cons (.var 1) .nil))) (.cons (.ret (.con .none)) .nil) .nil) (.cons (.asg 2 (.var 0)) (.cons (.for [3] .seq (.cons
  (.var 1) .nil) b_part_at_0) (.cons (.ret (.var 2)) .nil))))⟩
noncomputable def f_part : Fn := ⟨2, 3, (.cons (.asg 2 (.call F_part_at (.cons (.call F_checked (.cons (.var 0) .nil)) (.cons (.var 1) .nil)))) (.cons (.ifs (.pr .isN (.cons (.var 2) .nil))
  (.cons (.raiseP .BadWay (.var 1)) .nil) .nil) (.cons (.ret (.var 2)) .nil)))⟩
noncomputable def f_made_of : Fn := ⟨2, 2, (.cons (.ifs (.pr .eq (.cons (.pr .ix (.cons (.var 0) (.cons (.con (.int 0)) .nil))) (.cons (.con (.str (⟨#[112, 117, 116]⟩ : Str))) .nil))) (.cons
  (.ret (.tup (.cons (.con (.str (⟨#[112, 117, 116]⟩ : Str))) (.cons (.pr .ix (.cons (.var 1) (.cons (.con (.int 0)) .nil))) (.cons (.pr .tupO (.cons (.slc (.var 1) (.cons (.con
  (.int 1)) .nil) .nil) .nil)) .nil))))) .nil) .nil) (.cons (.ret (.tup (.cons (.con (.str (⟨#[114, 111, 117, 110, 100]⟩ : Str))) (.cons (.pr .ix (.cons (.var 1) (.cons (.con (.int
  0)) .nil))) (.cons (.pr .ix (.cons (.var 1) (.cons (.con (.int 1)) .nil))) .nil))))) .nil))⟩
noncomputable def f_with_part : Fn := ⟨3, 4, (.cons (.ifs (.pr .eq (.cons (.var 1) (.cons (.tup .nil) .nil))) (.cons (.ret (.var 2)) .nil) .nil) (.cons (.asg 3 (.call F_parts_right (.cons (.var
  0) .nil))) (.cons (.six 3 (.pr .ix (.cons (.var 1) (.cons (.con (.int 0)) .nil))) (.call F_with_part (.cons (.pr .ix (.cons (.var 3) (.cons (.pr .ix (.cons (.var 1) (.cons (.con
  (.int 0)) .nil))) .nil))) (.cons (.slc (.var 1) (.cons (.con (.int 1)) .nil) .nil) (.cons (.var 2) .nil))))) (.cons (.ret (.call F_made_of (.cons (.var 0) (.cons (.var 3) .nil))))
  .nil))))⟩
noncomputable def f_looked : Fn := ⟨1, 1, (.cons (.ifs (.not (.call F_is_term (.cons (.var 0) .nil))) (.cons (.raise .TooBig) .nil) .nil) (.cons (.ret (.var 0)) .nil))⟩
noncomputable def f_width : Fn := ⟨1, 1, (.cons (.ifs (.pr .eq (.cons (.pr .ix (.cons (.var 0) (.cons (.con (.int 0)) .nil))) (.cons (.con (.str (⟨#[110, 101, 120, 116]⟩ : Str))) .nil))) (.cons
  (.ret (.con (.int 1))) .nil) .nil) (.cons (.ifs (.pr .eq (.cons (.pr .ix (.cons (.var 0) (.cons (.con (.int 0)) .nil))) (.cons (.con (.str (⟨#[112, 117, 116]⟩ : Str))) .nil)))
  (.cons (.ret (.call F_width (.cons (.pr .ix (.cons (.pr .ix (.cons (.var 0) (.cons (.con (.int 2)) .nil))) (.cons (.con (.int 0)) .nil))) .nil))) .nil) .nil) (.cons (.ifs (.pr .eq
  (.cons (.pr .ix (.cons (.var 0) (.cons (.con (.int 0)) .nil))) (.cons (.con (.str (⟨#[114, 111, 117, 110, 100]⟩ : Str))) .nil))) (.cons (.ret (.pr .add (.cons (.con (.int 1))
  (.cons (.call F_width (.cons (.pr .ix (.cons (.var 0) (.cons (.con (.int 1)) .nil))) .nil)) .nil)))) .nil) .nil) (.cons (.ret (.pr .ix (.cons (.var 0) (.cons (.con (.int 1))
  .nil)))) .nil))))⟩
noncomputable def b_all_places_0 : Ex := (.tup (.cons (.con (.str (⟨#[112, 108, 97, 99, 101]⟩ : Str))) (.cons (.var 0) (.cons (.var 1) .nil))))
noncomputable def f_all_places : Fn := ⟨1, 2, (.cons (.ret (.pr .tupO (.cons (.comp b_all_places_0 [1] .rng (.cons (.var 0) .nil) .nil) .nil))) .nil)⟩
noncomputable def f_made : Fn := ⟨1, 1, (.cons (.ifs (.or (.not (.pr (.isi 2) (.cons (.var 0) .nil))) (.inD (⟨#[77, 65, 68, 69]⟩ : Str) k_MADE true (.var 0))) (.cons (.raiseP .BadName (.var 0))
  .nil) .nil) (.cons (.ret (.getD (⟨#[77, 65, 68, 69]⟩ : Str) kv_MADE (.var 0))) .nil))⟩
noncomputable def f_fixed_k41 : Fn := ⟨3, 6, (.cons (.asg 3 (.call F_arity (.cons (.var 0) .nil))) (.cons (.ifs (.not (.call F_is_within (.cons (.var 1) (.cons (.con (.int 0)) (.cons (.pr .sub
  (.cons (.var 3) (.cons (.con (.int 1)) .nil))) .nil))))) (.cons (.raise .BadPlace) .nil) .nil) (.cons .bad (.cons .bad (.cons .bad (.cons .bad .nil))))))⟩
noncomputable def f_gathered_k41 : Fn := ⟨3, 6, (.cons (.asg 3 (.call F_arity (.cons (.var 0) .nil))) (.cons (.ifs (.or (.pr .eq (.cons (.var 3) (.cons (.con (.int 0)) .nil))) (.pr .eq (.cons
  (.var 3) (.cons (.glo (⟨#[77, 79, 83, 84, 95, 80, 76, 65, 67, 69, 83]⟩ : Str) g_MOST_PLACES) .nil)))) (.cons (.raise .TooBig) .nil) .nil) (.cons .bad (.cons .bad (.cons .bad
  .nil)))))⟩
noncomputable def f_sum_below : Fn := ⟨1, 1, (.cons (.ret (.call F_gathered (.cons (.var 0) (.cons (.con (.int 0)) (.cons (.glo (⟨#[80, 76, 85, 83]⟩ : Str) g_PLUS) .nil))))) .nil)⟩
noncomputable def b_lifted_0 : Ex := (.call F_lifted (.cons (.var 2) (.cons (.var 1) .nil)))
noncomputable def f_lifted : Fn := ⟨2, 3, (.cons (.ifs (.pr .eq (.cons (.pr .ix (.cons (.var 0) (.cons (.con (.int 0)) .nil))) (.cons (.con (.str (⟨#[112, 117, 116]⟩ : Str))) .nil))) (.cons (.ret
  (.tup (.cons (.con (.str (⟨#[112, 117, 116]⟩ : Str))) (.cons (.pr .ix (.cons (.var 0) (.cons (.con (.int 1)) .nil))) (.cons (.pr .tupO (.cons (.comp b_lifted_0 [2] .seq (.cons
  (.pr .ix (.cons (.var 0) (.cons (.con (.int 2)) .nil))) .nil) .nil) .nil)) .nil))))) .nil) .nil) (.cons (.ret (.tup (.cons (.con (.str (⟨#[110, 111, 117, 103, 104, 116]⟩ : Str)))
  (.cons (.var 1) .nil)))) .nil))⟩
noncomputable def f_by_begin : Fn := ⟨2, 2, (.cons (.ifs (.or (.pr .ne (.cons (.pr .ix (.cons (.var 0) (.cons (.con (.int 0)) .nil))) (.cons (.con (.str (⟨#[114, 111, 117, 110, 100]⟩ : Str)))
  .nil))) (.pr .ne (.cons (.pr .ix (.cons (.pr .ix (.cons (.var 1) (.cons (.con (.int 0)) .nil))) (.cons (.con (.int 0)) .nil))) (.cons (.con (.str (⟨#[110, 111, 117, 103, 104,
  116]⟩ : Str))) .nil)))) (.cons (.ret (.con .none)) .nil) .nil) (.cons (.ifs (.pr .eq (.cons (.pr .len (.cons (.var 1) .nil)) (.cons (.con (.int 1)) .nil))) (.cons (.ret (.call
  F_lifted (.cons (.pr .ix (.cons (.var 0) (.cons (.con (.int 1)) .nil))) (.cons (.pr .ix (.cons (.pr .ix (.cons (.var 1) (.cons (.con (.int 0)) .nil))) (.cons (.con (.int 1))
  .nil))) .nil)))) .nil) .nil) (.cons (.ret (.tup (.cons (.con (.str (⟨#[112, 117, 116]⟩ : Str))) (.cons (.pr .ix (.cons (.var 0) (.cons (.con (.int 1)) .nil))) (.cons (.slc (.var
  1) (.cons (.con (.int 1)) .nil) .nil) .nil))))) .nil)))⟩
noncomputable def f_by_more : Fn := ⟨2, 3, (.cons (.ifs (.or (.pr .ne (.cons (.pr .ix (.cons (.var 0) (.cons (.con (.int 0)) .nil))) (.cons (.con (.str (⟨#[114, 111, 117, 110, 100]⟩ : Str)))
  .nil))) (.or (.pr .ne (.cons (.pr .ix (.cons (.pr .ix (.cons (.var 1) (.cons (.con (.int 0)) .nil))) (.cons (.con (.int 0)) .nil))) (.cons (.con (.str (⟨#[112, 117, 116]⟩ : Str)))
  .nil))) (.pr .ne (.cons (.pr .ix (.cons (.pr .ix (.cons (.var 1) (.cons (.con (.int 0)) .nil))) (.cons (.con (.int 1)) .nil))) (.cons (.tup (.cons (.con (.str (⟨#[110, 101, 120,
  116]⟩ : Str))) .nil)) .nil))))) (.cons (.ret (.con .none)) .nil) .nil) (.cons (.asg 2 (.pr .ix (.cons (.pr .ix (.cons (.var 1) (.cons (.con (.int 0)) .nil))) (.cons (.con (.int
  2)) .nil)))) (.cons (.ret (.tup (.cons (.con (.str (⟨#[112, 117, 116]⟩ : Str))) (.cons (.pr .ix (.cons (.var 0) (.cons (.con (.int 2)) .nil))) (.cons (.pr .add (.cons (.pr .add
  (.cons (.var 2) (.cons (.tup (.cons (.tup (.cons (.con (.str (⟨#[112, 117, 116]⟩ : Str))) (.cons (.var 0) (.cons (.pr .add (.cons (.var 2) (.cons (.slc (.var 1) (.cons (.con (.int
  1)) .nil) .nil) .nil))) .nil)))) .nil)) .nil))) (.cons (.slc (.var 1) (.cons (.con (.int 1)) .nil) .nil) .nil))) .nil))))) .nil)))⟩
noncomputable def f_by_nought : Fn := ⟨2, 2, (.cons (.ret (.ite (.pr .eq (.cons (.pr .ix (.cons (.var 0) (.cons (.con (.int 0)) .nil))) (.cons (.con (.str (⟨#[110, 111, 117, 103, 104, 116]⟩ :
  Str))) .nil))) (.tup (.cons (.con (.str (⟨#[110, 111, 117, 103, 104, 116]⟩ : Str))) (.cons (.call F_width (.cons (.pr .ix (.cons (.var 1) (.cons (.con (.int 0)) .nil))) .nil))
  .nil))) (.con .none))) .nil)⟩
noncomputable def f_by_place : Fn := ⟨2, 2, (.cons (.ret (.ite (.pr .eq (.cons (.pr .ix (.cons (.var 0) (.cons (.con (.int 0)) .nil))) (.cons (.con (.str (⟨#[112, 108, 97, 99, 101]⟩ : Str)))
  .nil))) (.pr .ix (.cons (.var 1) (.cons (.pr .ix (.cons (.var 0) (.cons (.con (.int 2)) .nil))) .nil))) (.con .none))) .nil)⟩
noncomputable def b_by_through_0 : Ex := (.tup (.cons (.con (.str (⟨#[112, 117, 116]⟩ : Str))) (.cons (.var 2) (.cons (.var 1) .nil))))
noncomputable def f_by_through : Fn := ⟨2, 3, (.cons (.ifs (.pr .ne (.cons (.pr .ix (.cons (.var 0) (.cons (.con (.int 0)) .nil))) (.cons (.con (.str (⟨#[112, 117, 116]⟩ : Str))) .nil))) (.cons
  (.ret (.con .none)) .nil) .nil) (.cons (.ret (.tup (.cons (.con (.str (⟨#[112, 117, 116]⟩ : Str))) (.cons (.pr .ix (.cons (.var 0) (.cons (.con (.int 1)) .nil))) (.cons (.pr .tupO
  (.cons (.comp b_by_through_0 [2] .seq (.cons (.pr .ix (.cons (.var 0) (.cons (.con (.int 2)) .nil))) .nil) .nil) .nil)) .nil))))) .nil))⟩
noncomputable def f_by_whole : Fn := ⟨2, 2, (.cons (.ret (.ite (.pr .eq (.cons (.var 1) (.cons (.call F_all_places (.cons (.call F_width (.cons (.pr .ix (.cons (.var 1) (.cons (.con (.int 0))
  .nil))) .nil)) .nil)) .nil))) (.var 0) (.con .none))) .nil)⟩
noncomputable def f_done_k41 : Fn := ⟨2, 3, (.cons (.ifs (.or (.pr .ne (.cons (.pr .ix (.cons (.var 0) (.cons (.con (.int 0)) .nil))) (.cons (.con (.str (⟨#[112, 117, 116]⟩ : Str))) .nil))) (.or
  (.not (.pr (.isi 2) (.cons (.var 1) .nil))) (.inD (⟨#[82, 85, 76, 69, 83]⟩ : Str) k_RULES true (.var 1)))) (.cons (.ret (.con .none)) .nil) .nil) (.cons .bad (.cons .bad .nil)))⟩
noncomputable def f_turned_at : Fn := ⟨3, 5, (.cons (.asg 3 (.call F_part_at (.cons (.var 0) (.cons (.var 1) .nil)))) (.cons (.asg 4 (.ite (.pr .isN (.cons (.var 3) .nil)) (.con .none) (.call
  F_done (.cons (.var 3) (.cons (.var 2) .nil))))) (.cons (.ret (.ite (.pr .isN (.cons (.var 4) .nil)) (.con .none) (.call F_with_part (.cons (.var 0) (.cons (.var 1) (.cons (.var
  4) .nil)))))) .nil)))⟩
noncomputable def f_turned_k41 : Fn := ⟨3, 4, (.cons (.exp (.call F_part (.cons (.var 0) (.cons (.var 1) .nil)))) (.cons (.asg 3 (.call F_turned_at (.cons (.var 0) (.cons (.var 1) (.cons (.var 2)
  .nil))))) (.cons (.ifs (.pr .isN (.cons (.var 3) .nil)) (.cons (.raise .BadTurn) .nil) .nil) (.cons .bad .nil))))⟩
noncomputable def b_many_papers_0 : Ss := (.cons (.aug 3 .add (.call F_many_papers (.cons (.var 4) (.cons (.pr .sub (.cons (.var 1) (.cons (.con (.int 1)) .nil))) .nil)))) (.cons (.ifs (.pr .gt
  (.cons (.var 3) (.cons (.glo (⟨#[77, 79, 83, 84, 95, 80, 65, 80, 69, 82, 83]⟩ : Str) g_MOST_PAPERS) .nil))) (.cons (.ret (.pr .add (.cons (.glo (⟨#[77, 79, 83, 84, 95, 80, 65, 80,
  69, 82, 83]⟩ : Str) g_MOST_PAPERS) (.cons (.con (.int 1)) .nil)))) .nil) .nil) .nil))
noncomputable def b_many_papers_1 : Ss := (.cons (.ifs (.not (.var 2)) (.cons (.ret (.pr .add (.cons (.glo (⟨#[77, 79, 83, 84, 95, 80, 65, 80, 69, 82, 83]⟩ : Str) g_MOST_PAPERS) (.cons (.con
  (.int 1)) .nil)))) .nil) .nil) (.cons (.asg 3 (.con (.int 1))) (.cons (.for [4] .seq (.cons (.var 2) .nil) b_many_papers_0) (.cons (.ret (.var 3)) .nil))))
noncomputable def f_many_papers : Fn := ⟨2, 5, (.cons (.ifs (.or (.pr .eq (.cons (.var 1) (.cons (.con (.int 0)) .nil))) (.or (.not (.pr (.isi 3) (.cons (.var 0) .nil))) (.or (.not (.var 0))
  (.not (.pr (.isi 2) (.cons (.pr .ix (.cons (.var 0) (.cons (.con (.int 0)) .nil))) .nil)))))) (.cons (.ret (.pr .add (.cons (.glo (⟨#[77, 79, 83, 84, 95, 80, 65, 80, 69, 82, 83]⟩
  : Str) g_MOST_PAPERS) (.cons (.con (.int 1)) .nil)))) .nil) .nil) (.cons (.ifs (.and (.pr .eq (.cons (.pr .ix (.cons (.var 0) (.cons (.con (.int 0)) .nil))) (.cons (.con (.str
  (⟨#[116, 117, 114, 110, 115]⟩ : Str))) .nil))) (.pr .eq (.cons (.pr .len (.cons (.var 0) .nil)) (.cons (.con (.int 2)) .nil)))) (.cons (.ret (.con (.int 1))) .nil) .nil) (.cons
  (.asg 2 (.tup .nil)) (.cons (.ifs (.and (.pr .eq (.cons (.pr .ix (.cons (.var 0) (.cons (.con (.int 0)) .nil))) (.cons (.con (.str (⟨#[98, 97, 99, 107]⟩ : Str))) .nil))) (.pr .eq
  (.cons (.pr .len (.cons (.var 0) .nil)) (.cons (.con (.int 2)) .nil)))) (.cons (.asg 2 (.slc (.var 0) (.cons (.con (.int 1)) .nil) .nil)) .nil) (.cons (.ifs (.and (.pr .eq (.cons
  (.pr .ix (.cons (.var 0) (.cons (.con (.int 0)) .nil))) (.cons (.con (.str (⟨#[116, 104, 101, 110]⟩ : Str))) .nil))) (.pr .eq (.cons (.pr .len (.cons (.var 0) .nil)) (.cons (.con
  (.int 4)) .nil)))) (.cons (.asg 2 (.slc (.var 0) (.cons (.con (.int 2)) .nil) .nil)) .nil) (.cons (.ifs (.and (.pr .eq (.cons (.pr .ix (.cons (.var 0) (.cons (.con (.int 0))
  .nil))) (.cons (.con (.str (⟨#[114, 111, 117, 110, 100, 115]⟩ : Str))) .nil))) (.pr .eq (.cons (.pr .len (.cons (.var 0) .nil)) (.cons (.con (.int 3)) .nil)))) (.cons (.asg 2
  (.slc (.var 0) (.cons (.con (.int 1)) .nil) .nil)) .nil) (.cons (.ifs (.and (.pr .eq (.cons (.pr .ix (.cons (.var 0) (.cons (.con (.int 0)) .nil))) (.cons (.con (.str (⟨#[112, 97,
  114, 116, 115]⟩ : Str))) .nil))) (.and (.pr .eq (.cons (.pr .len (.cons (.var 0) .nil)) (.cons (.con (.int 2)) .nil))) (.pr (.isi 3) (.cons (.pr .ix (.cons (.var 0) (.cons (.con
  (.int 1)) .nil))) .nil)))) (.cons (.asg 2 (.pr .ix (.cons (.var 0) (.cons (.con (.int 1)) .nil)))) .nil) .nil) .nil)) .nil)) .nil)) b_many_papers_1))))⟩
noncomputable def f_papers_in : Fn := ⟨1, 2, (.cons (.asg 1 (.call F_many_papers (.cons (.var 0) (.cons (.glo (⟨#[77, 79, 83, 84, 95, 68, 69, 69, 80]⟩ : Str) g_MOST_DEEP) .nil)))) (.cons (.ifs
  (.pr .gt (.cons (.var 1) (.cons (.glo (⟨#[77, 79, 83, 84, 95, 80, 65, 80, 69, 82, 83]⟩ : Str) g_MOST_PAPERS) .nil))) (.cons (.raise .BadPaper) .nil) .nil) (.cons (.ret (.var 1))
  .nil)))⟩
noncomputable def f_shorter_k41 : Fn := ⟨1, 1, (.cons (.exp (.call F_papers_in (.cons (.var 0) .nil))) (.cons .bad .nil))⟩
noncomputable def f_checked_program_k41 : Fn := ⟨1, 1, (.cons (.ifs (.or (.not (.pr (.isi 3) (.cons (.var 0) .nil))) (.or (.pr .ne (.cons (.pr .len (.cons (.var 0) .nil)) (.cons (.con (.int 4))
  .nil))) (.not (.call F_is_within (.cons (.pr .ix (.cons (.var 0) (.cons (.con (.int 0)) .nil))) (.cons (.con (.int 1)) (.cons (.glo (⟨#[77, 79, 83, 84, 95, 66, 79, 88, 69, 83]⟩ :
  Str) g_MOST_BOXES) .nil))))))) (.cons (.raise .BadProgram) .nil) .nil) (.cons .bad (.cons .bad (.cons .bad .nil))))⟩
noncomputable def f_heard_k41 : Fn := ⟨1, 6, (.cons (.unp [1, 2, 3, 4] (.call F_checked_program (.cons (.var 0) .nil))) (.cons .bad .nil))⟩
noncomputable def f_read_next_k41 : Fn := ⟨2, 5, (.cons (.asg 2 (.mth 0 (⟨#[84, 97, 107, 101, 114]⟩ : Str) (⟨#[115, 105, 103, 110]⟩ : Str) F_Taker_sign .nil)) (.cons (.ifs (.or (.pr .eq (.cons
  (.var 1) (.cons (.con (.int 0)) .nil))) (.pr .nin (.cons (.var 2) (.cons (.tup (.cons (.con (.str (⟨#[60]⟩ : Str))) (.cons (.con (.str (⟨#[45]⟩ : Str))) (.cons (.con (.str
  (⟨#[123]⟩ : Str))) (.cons (.con (.str (⟨#[40]⟩ : Str))) (.cons (.con (.str (⟨#[91]⟩ : Str))) .nil)))))) .nil)))) (.cons (.raise .BadText) .nil) .nil) (.cons .bad (.cons .bad
  (.cons .bad (.cons .bad (.cons .bad (.cons .bad (.cons .bad (.cons .bad (.cons .bad .nil)))))))))))⟩
noncomputable def f_read_paper_k41 : Fn := ⟨1, 4, (.cons (.ifs (.not (.pr (.isi 2) (.cons (.var 0) .nil))) (.cons (.raise .BadText) .nil) .nil) (.cons (.mk 1 (⟨#[84, 97, 107, 101, 114]⟩ : Str)
  ini_Taker (.cons (.var 0) .nil)) (.cons (.asg 2 (.mthN 1 F_read_next (.cons (.glo (⟨#[77, 79, 83, 84, 95, 68, 69, 69, 80]⟩ : Str) g_MOST_DEEP) .nil))) (.cons .bad (.cons .bad
  (.cons .bad (.cons .bad .nil)))))))⟩
noncomputable def f__law_cell : Fn := ⟨2, 2, (.cons (.ifs (.pr .lt (.cons (.var 1) (.cons (.pr .len (.cons (.var 0) .nil)) .nil))) (.cons (.ret (.pr .ix (.cons (.var 0) (.cons (.var 1) .nil))))
  .nil) .nil) (.cons (.ret (.con (.int 0))) .nil))⟩
noncomputable def f__law_refused_by : Fn := ⟨1, 1, (.cons (.ifs (.pr .eq (.cons (.var 0) (.cons (.con (.int 0)) .nil))) (.cons (.ret (.call F_checked (.cons (.tup .nil) .nil))) .nil) .nil) (.cons
  (.ifs (.pr .eq (.cons (.var 0) (.cons (.con (.int 1)) .nil))) (.cons (.ret (.call F_value (.cons (.tup (.cons (.con (.str (⟨#[110, 101, 120, 116]⟩ : Str))) .nil)) (.cons (.lst
  .nil) .nil)))) .nil) .nil) (.cons (.ifs (.pr .eq (.cons (.var 0) (.cons (.con (.int 2)) .nil))) (.cons (.ret (.call F_value (.cons (.call F_made (.cons (.con (.str (⟨#[116, 105,
  109, 101, 115]⟩ : Str))) .nil)) (.cons (.lst (.cons (.con (.int 500)) (.cons (.con (.int 500)) .nil))) .nil)))) .nil) .nil) (.cons (.ifs (.pr .eq (.cons (.var 0) (.cons (.con
  (.int 3)) .nil))) (.cons (.ret (.call F_heard (.cons (.tup .nil) .nil))) .nil) .nil) (.cons (.ifs (.pr .eq (.cons (.var 0) (.cons (.con (.int 4)) .nil))) (.cons (.ret (.call
  F_made (.cons (.con (.str (⟨#[]⟩ : Str))) .nil))) .nil) .nil) (.cons (.ifs (.pr .eq (.cons (.var 0) (.cons (.con (.int 5)) .nil))) (.cons (.ret (.call F_sum_below (.cons (.tup
  (.cons (.con (.str (⟨#[110, 111, 117, 103, 104, 116]⟩ : Str))) (.cons (.con (.int 0)) .nil))) .nil))) .nil) .nil) (.cons (.ifs (.pr .eq (.cons (.var 0) (.cons (.con (.int 6))
  .nil))) (.cons (.ret (.call F_read_paper (.cons (.con (.str (⟨#[]⟩ : Str))) .nil))) .nil) .nil) (.cons (.ifs (.pr .eq (.cons (.var 0) (.cons (.con (.int 7)) .nil))) (.cons (.ret
  (.call F_part (.cons (.tup (.cons (.con (.str (⟨#[110, 101, 120, 116]⟩ : Str))) .nil)) (.cons (.tup (.cons (.con (.int 0)) .nil)) .nil)))) .nil) .nil) (.cons (.ifs (.pr .eq (.cons
  (.var 0) (.cons (.con (.int 8)) .nil))) (.cons (.ret (.call F_turned (.cons (.tup (.cons (.con (.str (⟨#[110, 101, 120, 116]⟩ : Str))) .nil)) (.cons (.tup .nil) (.cons (.con (.str
  (⟨#[119, 104, 111, 108, 101]⟩ : Str))) .nil))))) .nil) .nil) (.cons (.ifs (.pr .eq (.cons (.var 0) (.cons (.con (.int 9)) .nil))) (.cons (.ret (.call F_fixed (.cons (.tup (.cons
  (.con (.str (⟨#[110, 101, 120, 116]⟩ : Str))) .nil)) (.cons (.con (.int 1)) (.cons (.con (.int 0)) .nil))))) .nil) .nil) (.cons (.ret (.ite (.pr .eq (.cons (.var 0) (.cons (.con
  (.int 10)) .nil))) (.newm (⟨#[68, 101, 115, 107]⟩ : Str) ini_Desk (⟨#[98, 97, 99, 107]⟩ : Str) F_Desk_back []) (.call F_shorter (.cons (.tup .nil) .nil)))) .nil)))))))))))⟩
noncomputable def b_law_k41_0 : Ex := (.pr .eq (.cons (.var 6) (.cons (.var 1) .nil)))
noncomputable def f_law_k41 : Fn := ⟨1, 7, (.cons (.asg 1 (.pr .mod (.cons (.call F__law_cell (.cons (.var 0) (.cons (.con (.int 0)) .nil))) (.cons (.con (.int 12)) .nil)))) (.cons (.asg 2 (.lst
  .nil)) (.cons (.asg 3 (.con (.bool false))) (.cons (.asg 4 (.con .none)) (.cons (.try (.cons (.exp (.call F__law_refused_by (.cons (.var 1) .nil))) .nil) (.cons .PaperError (some
  5) (.cons (.asg 2 (.lst (.cons (.isx .BadTerm 5) (.cons (.isx .BadNumbers 5) (.cons (.isx .TooLong 5) .nil))))) (.cons (.asg 2 (.pr .add (.cons (.var 2) (.cons (.lst (.cons (.isx
  .BadProgram 5) (.cons (.isx .BadName 5) (.cons (.isx .TooBig 5) .nil)))) .nil)))) (.cons (.asg 2 (.pr .add (.cons (.var 2) (.cons (.lst (.cons (.isx .BadText 5) (.cons (.isx
  .BadWay 5) (.cons (.isx .BadTurn 5) .nil)))) .nil)))) (.cons (.asg 2 (.pr .add (.cons (.var 2) (.cons (.lst (.cons (.isx .BadPlace 5) (.cons (.isx .NoName 5) (.cons (.isx
  .BadPaper 5) .nil)))) .nil)))) (.cons (.asg 3 (.isx .ValueError 5)) .nil))))) .nil)) (.cons (.try (.cons (.exp (.call F_part (.cons (.tup (.cons (.con (.str (⟨#[110, 101, 120,
  116]⟩ : Str))) .nil)) (.cons (.lst (.cons (.var 1) .nil)) .nil)))) .nil) (.cons .BadWay (some 5) (.cons (.asg 4 (.fld 5 (⟨#[119, 97, 121]⟩ : Str))) .nil) .nil)) (.cons (.ret (.and
  (.var 3) (.and (.pr .eq (.cons (.var 4) (.cons (.lst (.cons (.var 1) .nil)) .nil))) (.pr .eq (.cons (.var 2) (.cons (.comp b_law_k41_0 [6] .rng (.cons (.con (.int 12)) .nil) .nil)
  .nil)))))) .nil)))))))⟩
noncomputable def b_Reckoner_value_0 : Ex := (.mth 0 (⟨#[82, 101, 99, 107, 111, 110, 101, 114]⟩ : Str) (⟨#[118, 97, 108, 117, 101]⟩ : Str) F_Reckoner_value (.cons (.var 6) (.cons (.var 2) .nil)))
noncomputable def b_Reckoner_value_1 : Ss := (.cons (.asg 4 (.mth 0 (⟨#[82, 101, 99, 107, 111, 110, 101, 114]⟩ : Str) (⟨#[118, 97, 108, 117, 101]⟩ : Str) F_Reckoner_value (.cons (.pr .ix (.cons
  (.var 1) (.cons (.con (.int 2)) .nil))) (.cons (.pr .add (.cons (.lst (.cons (.var 5) (.cons (.var 4) .nil))) (.cons (.slc (.var 2) (.cons (.con (.int 1)) .nil) .nil) .nil)))
  .nil)))) .nil)
noncomputable def b_Reckoner_value_2 : Ss := (.cons (.asg 3 (.pr .ix (.cons (.var 1) (.cons (.con (.int 0)) .nil)))) (.cons (.ifs (.pr .eq (.cons (.var 3) (.cons (.con (.str (⟨#[110, 111, 117,
  103, 104, 116]⟩ : Str))) .nil))) (.cons (.ret (.con (.int 0))) .nil) .nil) (.cons (.ifs (.pr .eq (.cons (.var 3) (.cons (.con (.str (⟨#[110, 101, 120, 116]⟩ : Str))) .nil)))
  (.cons (.ret (.pr .add (.cons (.pr .ix (.cons (.var 2) (.cons (.con (.int 0)) .nil))) (.cons (.con (.int 1)) .nil)))) .nil) .nil) (.cons (.ifs (.pr .eq (.cons (.var 3) (.cons
  (.con (.str (⟨#[112, 108, 97, 99, 101]⟩ : Str))) .nil))) (.cons (.ret (.pr .ix (.cons (.var 2) (.cons (.pr .ix (.cons (.var 1) (.cons (.con (.int 2)) .nil))) .nil)))) .nil) .nil)
  (.cons (.ifs (.pr .eq (.cons (.var 3) (.cons (.con (.str (⟨#[112, 117, 116]⟩ : Str))) .nil))) (.cons (.ret (.mth 0 (⟨#[82, 101, 99, 107, 111, 110, 101, 114]⟩ : Str) (⟨#[118, 97,
  108, 117, 101]⟩ : Str) F_Reckoner_value (.cons (.pr .ix (.cons (.var 1) (.cons (.con (.int 1)) .nil))) (.cons (.compX b_Reckoner_value_0 [6] .seq (.cons (.pr .ix (.cons (.var 1)
  (.cons (.con (.int 2)) .nil))) .nil) .nil) .nil)))) .nil) .nil) (.cons (.asg 4 (.mth 0 (⟨#[82, 101, 99, 107, 111, 110, 101, 114]⟩ : Str) (⟨#[118, 97, 108, 117, 101]⟩ : Str)
  F_Reckoner_value (.cons (.pr .ix (.cons (.var 1) (.cons (.con (.int 1)) .nil))) (.cons (.slc (.var 2) (.cons (.con (.int 1)) .nil) .nil) .nil)))) (.cons (.for [5] .rng (.cons (.pr
  .ix (.cons (.var 2) (.cons (.con (.int 0)) .nil))) .nil) b_Reckoner_value_1) (.cons (.ret (.var 4)) .nil))))))))
noncomputable def f_Reckoner_value : Fn := ⟨3, 7, (.cons (.augF 0 (⟨#[115, 116, 101, 112, 115]⟩ : Str) 1) (.cons (.ifs (.pr .gt (.cons (.fldO 0 (⟨#[115, 116, 101, 112, 115]⟩ : Str)) (.cons (.glo
  (⟨#[77, 79, 83, 84, 95, 83, 84, 69, 80, 83]⟩ : Str) g_MOST_STEPS) .nil))) (.cons (.raise .TooLong) .nil) .nil) b_Reckoner_value_2))⟩
noncomputable def f_Desk_back_k41 : Fn := ⟨1, 3, (.cons (.ifs (.not (.fldO 0 (⟨#[119, 111, 114, 100, 115]⟩ : Str))) (.cons (.raise .NoName) .nil) .nil) (.cons .bad (.cons .bad (.cons .bad (.cons
  .bad .nil)))))⟩
noncomputable def f_Taker_sign : Fn := ⟨1, 1, (.cons (.ret (.slc (.fldO 0 (⟨#[116, 101, 120, 116]⟩ : Str)) (.cons (.fldO 0 (⟨#[97, 116]⟩ : Str)) .nil) (.cons (.pr .add (.cons (.fldO 0 (⟨#[97,
  116]⟩ : Str)) (.cons (.con (.int 1)) .nil))) .nil))) .nil)⟩
noncomputable def f_Taker_take : Fn := ⟨2, 2, (.cons (.ifs (.pr .ne (.cons (.mth 0 (⟨#[84, 97, 107, 101, 114]⟩ : Str) (⟨#[115, 105, 103, 110]⟩ : Str) F_Taker_sign .nil) (.cons (.var 1) .nil)))
  (.cons (.raise .BadText) .nil) .nil) (.cons (.augF 0 (⟨#[97, 116]⟩ : Str) 1) .nil))⟩
noncomputable def f_Taker_figure : Fn := ⟨1, 1, (.cons (.ifs (.or (.pr .eq (.cons (.mth 0 (⟨#[84, 97, 107, 101, 114]⟩ : Str) (⟨#[115, 105, 103, 110]⟩ : Str) F_Taker_sign .nil) (.cons (.con (.str
  (⟨#[]⟩ : Str))) .nil))) (.pr .nin (.cons (.mth 0 (⟨#[84, 97, 107, 101, 114]⟩ : Str) (⟨#[115, 105, 103, 110]⟩ : Str) F_Taker_sign .nil) (.cons (.glo (⟨#[70, 73, 71, 85, 82, 69,
  83]⟩ : Str) g_FIGURES) .nil)))) (.cons (.raise .BadText) .nil) .nil) (.cons (.augF 0 (⟨#[97, 116]⟩ : Str) 1) (.cons (.ret (.pr .idxS (.cons (.glo (⟨#[70, 73, 71, 85, 82, 69, 83]⟩
  : Str) g_FIGURES) (.cons (.pr .ix (.cons (.fldO 0 (⟨#[116, 101, 120, 116]⟩ : Str)) (.cons (.pr .sub (.cons (.fldO 0 (⟨#[97, 116]⟩ : Str)) (.cons (.con (.int 1)) .nil))) .nil)))
  .nil)))) .nil)))⟩
noncomputable def f_Taker_term : Fn := ⟨2, 6, (.cons (.ifs (.pr .eq (.cons (.var 1) (.cons (.con (.int 0)) .nil))) (.cons (.raise .BadText) .nil) .nil) (.cons (.ifs (.pr .eq (.cons (.mth 0
  (⟨#[84, 97, 107, 101, 114]⟩ : Str) (⟨#[115, 105, 103, 110]⟩ : Str) F_Taker_sign .nil) (.cons (.con (.str (⟨#[43]⟩ : Str))) .nil))) (.cons (.exp (.mth 0 (⟨#[84, 97, 107, 101, 114]⟩
  : Str) (⟨#[116, 97, 107, 101]⟩ : Str) F_Taker_take (.cons (.con (.str (⟨#[43]⟩ : Str))) .nil))) (.cons (.ret (.tup (.cons (.con (.str (⟨#[110, 101, 120, 116]⟩ : Str))) .nil)))
  .nil)) .nil) (.cons (.ifs (.pr .eq (.cons (.mth 0 (⟨#[84, 97, 107, 101, 114]⟩ : Str) (⟨#[115, 105, 103, 110]⟩ : Str) F_Taker_sign .nil) (.cons (.con (.str (⟨#[40]⟩ : Str)))
  .nil))) (.cons (.ret (.mth 0 (⟨#[84, 97, 107, 101, 114]⟩ : Str) (⟨#[112, 117, 116]⟩ : Str) F_Taker_put (.cons (.var 1) .nil))) .nil) .nil) (.cons (.ifs (.pr .eq (.cons (.mth 0
  (⟨#[84, 97, 107, 101, 114]⟩ : Str) (⟨#[115, 105, 103, 110]⟩ : Str) F_Taker_sign .nil) (.cons (.con (.str (⟨#[91]⟩ : Str))) .nil))) (.cons (.exp (.mth 0 (⟨#[84, 97, 107, 101, 114]⟩
  : Str) (⟨#[116, 97, 107, 101]⟩ : Str) F_Taker_take (.cons (.con (.str (⟨#[91]⟩ : Str))) .nil))) (.cons (.asg 4 (.mth 0 (⟨#[84, 97, 107, 101, 114]⟩ : Str) (⟨#[116, 101, 114, 109]⟩
  : Str) F_Taker_term (.cons (.pr .sub (.cons (.var 1) (.cons (.con (.int 1)) .nil))) .nil))) (.cons (.exp (.mth 0 (⟨#[84, 97, 107, 101, 114]⟩ : Str) (⟨#[116, 97, 107, 101]⟩ : Str)
  F_Taker_take (.cons (.con (.str (⟨#[32]⟩ : Str))) .nil))) (.cons (.asg 5 (.mth 0 (⟨#[84, 97, 107, 101, 114]⟩ : Str) (⟨#[116, 101, 114, 109]⟩ : Str) F_Taker_term (.cons (.pr .sub
  (.cons (.var 1) (.cons (.con (.int 1)) .nil))) .nil))) (.cons (.exp (.mth 0 (⟨#[84, 97, 107, 101, 114]⟩ : Str) (⟨#[116, 97, 107, 101]⟩ : Str) F_Taker_take (.cons (.con (.str
  (⟨#[93]⟩ : Str))) .nil))) (.cons (.ret (.tup (.cons (.con (.str (⟨#[114, 111, 117, 110, 100]⟩ : Str))) (.cons (.var 4) (.cons (.var 5) .nil))))) .nil)))))) .nil) (.cons (.asg 2
  (.mth 0 (⟨#[84, 97, 107, 101, 114]⟩ : Str) (⟨#[102, 105, 103, 117, 114, 101]⟩ : Str) F_Taker_figure .nil)) (.cons (.exp (.mth 0 (⟨#[84, 97, 107, 101, 114]⟩ : Str) (⟨#[116, 97,
  107, 101]⟩ : Str) F_Taker_take (.cons (.con (.str (⟨#[47]⟩ : Str))) .nil))) (.cons (.asg 3 (.mth 0 (⟨#[84, 97, 107, 101, 114]⟩ : Str) (⟨#[102, 105, 103, 117, 114, 101]⟩ : Str)
  F_Taker_figure .nil)) (.cons (.ifs (.pr .eq (.cons (.var 2) (.cons (.con (.int 0)) .nil))) (.cons (.ret (.tup (.cons (.con (.str (⟨#[110, 111, 117, 103, 104, 116]⟩ : Str))) (.cons
  (.var 3) .nil)))) .nil) .nil) (.cons (.ret (.tup (.cons (.con (.str (⟨#[112, 108, 97, 99, 101]⟩ : Str))) (.cons (.var 3) (.cons (.pr .sub (.cons (.var 2) (.cons (.con (.int 1))
  .nil))) .nil))))) .nil)))))))))⟩
noncomputable def b_Taker_put_0 : Ss := (.cons (.exp (.mth 0 (⟨#[84, 97, 107, 101, 114]⟩ : Str) (⟨#[116, 97, 107, 101]⟩ : Str) F_Taker_take (.cons (.con (.str (⟨#[32]⟩ : Str))) .nil))) (.cons
  (.app 3 (.mth 0 (⟨#[84, 97, 107, 101, 114]⟩ : Str) (⟨#[116, 101, 114, 109]⟩ : Str) F_Taker_term (.cons (.pr .sub (.cons (.var 1) (.cons (.con (.int 1)) .nil))) .nil))) .nil))
noncomputable def f_Taker_put : Fn := ⟨2, 4, (.cons (.exp (.mth 0 (⟨#[84, 97, 107, 101, 114]⟩ : Str) (⟨#[116, 97, 107, 101]⟩ : Str) F_Taker_take (.cons (.con (.str (⟨#[40]⟩ : Str))) .nil)))
  (.cons (.asg 2 (.mth 0 (⟨#[84, 97, 107, 101, 114]⟩ : Str) (⟨#[116, 101, 114, 109]⟩ : Str) F_Taker_term (.cons (.pr .sub (.cons (.var 1) (.cons (.con (.int 1)) .nil))) .nil)))
  (.cons (.asg 3 (.lst .nil)) (.cons (.whl (.pr .eq (.cons (.mth 0 (⟨#[84, 97, 107, 101, 114]⟩ : Str) (⟨#[115, 105, 103, 110]⟩ : Str) F_Taker_sign .nil) (.cons (.con (.str (⟨#[32]⟩
  : Str))) .nil))) b_Taker_put_0) (.cons (.exp (.mth 0 (⟨#[84, 97, 107, 101, 114]⟩ : Str) (⟨#[116, 97, 107, 101]⟩ : Str) F_Taker_take (.cons (.con (.str (⟨#[41]⟩ : Str))) .nil)))
  (.cons (.ret (.tup (.cons (.con (.str (⟨#[112, 117, 116]⟩ : Str))) (.cons (.var 2) (.cons (.pr .tupO (.cons (.var 3) .nil)) .nil))))) .nil))))))⟩
noncomputable def f__law_whole : Fn := ⟨1, 1, (.cons (.ret (.and (.pr (.isi 0) (.cons (.var 0) .nil)) (.not (.pr (.isi 1) (.cons (.var 0) .nil))))) .nil)⟩
noncomputable def b__law_row_0 : Ss := (.cons (.ifs (.pr .lt (.cons (.call F__law_cell (.cons (.var 0) (.cons (.var 1) .nil))) (.cons (.pr .pow (.cons (.con (.int 10)) (.cons (.con (.int 18))
  .nil))) .nil))) (.cons (.asg 2 (.pr .mod (.cons (.pr .add (.cons (.pr .add (.cons (.pr .add (.cons (.pr .mul (.cons (.var 2) (.cons (.con (.int 48271)) .nil))) (.cons (.pr .mul
  (.cons (.con (.int 131)) (.cons (.var 4) .nil))) .nil))) (.cons (.con (.int 7)) .nil))) (.cons (.call F__law_cell (.cons (.var 0) (.cons (.pr .mod (.cons (.pr .add (.cons (.pr
  .add (.cons (.var 1) (.cons (.con (.int 1)) .nil))) (.cons (.var 4) .nil))) (.cons (.con (.int 20)) .nil))) .nil))) .nil))) (.cons (.con (.int 2147483647)) .nil)))) (.cons (.app 3
  (.pr .mod (.cons (.pr .fdiv (.cons (.var 2) (.cons (.con (.int 11)) .nil))) (.cons (.con (.int 1000)) .nil)))) .nil)) (.cons (.app 3 (.pr .mod (.cons (.var 2) (.cons (.con (.int
  1000)) .nil)))) (.cons (.asg 2 (.pr .fdiv (.cons (.var 2) (.cons (.con (.int 1000)) .nil)))) .nil))) .nil)
noncomputable def f__law_row : Fn := ⟨2, 5, (.cons (.asg 2 (.call F__law_cell (.cons (.var 0) (.cons (.var 1) .nil)))) (.cons (.asg 3 (.lst .nil)) (.cons (.for [4] .rng (.cons (.con (.int 60))
  .nil) b__law_row_0) (.cons (.ret (.var 3)) .nil))))⟩
noncomputable def f__law_leaf : Fn := ⟨2, 3, (.cons (.ifs (.and (.pr .eq (.cons (.var 1) (.cons (.con (.int 1)) .nil))) (.pr .eq (.cons (.pr .mod (.cons (.var 0) (.cons (.con (.int 3)) .nil)))
  (.cons (.con (.int 2)) .nil)))) (.cons (.ret (.tup (.cons (.con (.str (⟨#[110, 101, 120, 116]⟩ : Str))) .nil))) .nil) .nil) (.cons (.asg 2 (.pr .mod (.cons (.pr .fdiv (.cons (.var
  0) (.cons (.con (.int 3)) .nil))) (.cons (.pr .add (.cons (.var 1) (.cons (.con (.int 1)) .nil))) .nil)))) (.cons (.ifs (.pr .eq (.cons (.var 2) (.cons (.var 1) .nil))) (.cons
  (.ret (.tup (.cons (.con (.str (⟨#[110, 111, 117, 103, 104, 116]⟩ : Str))) (.cons (.var 1) .nil)))) .nil) .nil) (.cons (.ret (.tup (.cons (.con (.str (⟨#[112, 108, 97, 99, 101]⟩ :
  Str))) (.cons (.var 1) (.cons (.var 2) .nil))))) .nil))))⟩
noncomputable def b__law_grown_0 : Ss := (.cons (.asg 14 (.call F__law_grown (.cons (.var 0) (.cons (.var 10) (.cons (.var 2) (.cons (.pr .sub (.cons (.var 3) (.cons (.con (.int 1)) .nil)))
  .nil)))))) (.cons (.app 9 (.pr .ix (.cons (.var 14) (.cons (.con (.int 0)) .nil)))) (.cons (.asg 10 (.pr .ix (.cons (.var 14) (.cons (.con (.int 1)) .nil)))) .nil)))
noncomputable def b__law_grown_1 : Ss := (.cons (.asg 9 (.lst .nil)) (.cons (.asg 10 (.pr .ix (.cons (.var 8) (.cons (.con (.int 1)) .nil)))) (.cons (.for [11] .rng (.cons (.var 7) .nil)
  b__law_grown_0) (.cons (.ret (.tup (.cons (.tup (.cons (.con (.str (⟨#[112, 117, 116]⟩ : Str))) (.cons (.pr .ix (.cons (.var 8) (.cons (.con (.int 0)) .nil))) (.cons (.pr .tupO
  (.cons (.var 9) .nil)) .nil)))) (.cons (.var 10) .nil)))) .nil))))
noncomputable def b__law_grown_2 : Ss := (.cons (.asg 7 (.pr .add (.cons (.con (.int 1)) (.cons (.pr .mod (.cons (.pr .mod (.cons (.var 6) (.cons (.con (.int 7)) .nil))) (.cons (.con (.int 3))
  .nil))) .nil)))) (.cons (.asg 8 (.tup (.cons (.tup (.cons (.con (.str (⟨#[110, 101, 120, 116]⟩ : Str))) .nil)) (.cons (.pr .add (.cons (.var 1) (.cons (.con (.int 1)) .nil)))
  .nil)))) (.cons (.ifs (.or (.pr .gt (.cons (.var 7) (.cons (.con (.int 1)) .nil))) (.pr .eq (.cons (.pr .mod (.cons (.pr .fdiv (.cons (.var 6) (.cons (.con (.int 7)) .nil)))
  (.cons (.con (.int 2)) .nil))) (.cons (.con (.int 0)) .nil)))) (.cons (.asg 8 (.call F__law_grown (.cons (.var 0) (.cons (.pr .add (.cons (.var 1) (.cons (.con (.int 1)) .nil)))
  (.cons (.var 7) (.cons (.pr .sub (.cons (.var 3) (.cons (.con (.int 1)) .nil))) .nil)))))) .nil) .nil) b__law_grown_1)))
noncomputable def b__law_grown_3 : Ss := (.cons (.ifs (.and (.pr .lt (.cons (.var 5) (.cons (.con (.int 6)) .nil))) (.chn [.le, .le] (.con (.int 1)) (.cons (.var 2) (.cons (.con (.int 3))
  .nil)))) (.cons (.asg 12 (.call F__law_grown (.cons (.var 0) (.cons (.pr .add (.cons (.var 1) (.cons (.con (.int 1)) .nil))) (.cons (.pr .sub (.cons (.var 2) (.cons (.con (.int
  1)) .nil))) (.cons (.pr .sub (.cons (.var 3) (.cons (.con (.int 1)) .nil))) .nil)))))) (.cons (.asg 13 (.call F__law_grown (.cons (.var 0) (.cons (.pr .ix (.cons (.var 12) (.cons
  (.con (.int 1)) .nil))) (.cons (.pr .add (.cons (.var 2) (.cons (.con (.int 1)) .nil))) (.cons (.pr .sub (.cons (.var 3) (.cons (.con (.int 1)) .nil))) .nil)))))) (.cons (.ret
  (.tup (.cons (.tup (.cons (.con (.str (⟨#[114, 111, 117, 110, 100]⟩ : Str))) (.cons (.pr .ix (.cons (.var 12) (.cons (.con (.int 0)) .nil))) (.cons (.pr .ix (.cons (.var 13)
  (.cons (.con (.int 0)) .nil))) .nil)))) (.cons (.pr .ix (.cons (.var 13) (.cons (.con (.int 1)) .nil))) .nil)))) .nil))) .nil) b__law_grown_2)
noncomputable def f__law_grown : Fn := ⟨4, 15, (.cons (.asg 4 (.ite (.pr .lt (.cons (.var 1) (.cons (.pr .len (.cons (.var 0) .nil)) .nil))) (.pr .ix (.cons (.var 0) (.cons (.var 1) .nil))) (.con
  (.int 0)))) (.cons (.asg 5 (.pr .mod (.cons (.var 4) (.cons (.con (.int 10)) .nil)))) (.cons (.asg 6 (.pr .fdiv (.cons (.var 4) (.cons (.con (.int 10)) .nil)))) (.cons (.ifs (.or
  (.pr .eq (.cons (.var 3) (.cons (.con (.int 0)) .nil))) (.or (.pr .lt (.cons (.var 5) (.cons (.con (.int 2)) .nil))) (.pr .ge (.cons (.var 1) (.cons (.con (.int 28)) .nil)))))
  (.cons (.ret (.tup (.cons (.call F__law_leaf (.cons (.var 6) (.cons (.var 2) .nil))) (.cons (.pr .add (.cons (.var 1) (.cons (.con (.int 1)) .nil))) .nil)))) .nil) .nil)
  b__law_grown_3))))⟩
noncomputable def f__law_drawn : Fn := ⟨2, 3, (.cons (.asg 2 (.call F__law_row (.cons (.var 0) (.cons (.var 1) .nil)))) (.cons (.ret (.pr .ix (.cons (.call F__law_grown (.cons (.var 2) (.cons
  (.con (.int 1)) (.cons (.pr .ix (.cons (.lst (.cons (.con (.int 1)) (.cons (.con (.int 2)) (.cons (.con (.int 1)) (.cons (.con (.int 3)) (.cons (.con (.int 2)) (.cons (.con (.int
  0)) (.cons (.con (.int 1)) (.cons (.con (.int 2)) (.cons (.con (.int 4)) (.cons (.con (.int 3)) .nil))))))))))) (.cons (.pr .mod (.cons (.pr .ix (.cons (.var 2) (.cons (.con (.int
  0)) .nil))) (.cons (.con (.int 10)) .nil))) .nil))) (.cons (.pr .add (.cons (.con (.int 1)) (.cons (.pr .mod (.cons (.pr .fdiv (.cons (.pr .ix (.cons (.var 2) (.cons (.con (.int
  0)) .nil))) (.cons (.con (.int 10)) .nil))) (.cons (.con (.int 3)) .nil))) .nil))) .nil))))) (.cons (.con (.int 0)) .nil)))) .nil))⟩
noncomputable def f__law_parts : Fn := ⟨1, 1, (.cons (.ifs (.pr .eq (.cons (.pr .ix (.cons (.var 0) (.cons (.con (.int 0)) .nil))) (.cons (.con (.str (⟨#[112, 117, 116]⟩ : Str))) .nil))) (.cons
  (.ret (.pr .add (.cons (.lst (.cons (.pr .ix (.cons (.var 0) (.cons (.con (.int 1)) .nil))) .nil)) (.cons (.pr .lstO (.cons (.pr .ix (.cons (.var 0) (.cons (.con (.int 2)) .nil)))
  .nil)) .nil)))) .nil) .nil) (.cons (.ifs (.pr .eq (.cons (.pr .ix (.cons (.var 0) (.cons (.con (.int 0)) .nil))) (.cons (.con (.str (⟨#[114, 111, 117, 110, 100]⟩ : Str))) .nil)))
  (.cons (.ret (.lst (.cons (.pr .ix (.cons (.var 0) (.cons (.con (.int 1)) .nil))) (.cons (.pr .ix (.cons (.var 0) (.cons (.con (.int 2)) .nil))) .nil)))) .nil) .nil) (.cons (.ret
  (.lst .nil)) .nil)))⟩
noncomputable def b__law_size_0 : Ex := (.call F__law_size (.cons (.var 1) .nil))
noncomputable def f__law_size : Fn := ⟨1, 2, (.cons (.ret (.pr .add (.cons (.con (.int 1)) (.cons (.pr .sum (.cons (.comp b__law_size_0 [1] .seq (.cons (.call F__law_parts (.cons (.var 0) .nil))
  .nil) .nil) .nil)) .nil)))) .nil)⟩
noncomputable def b__law_ways_0 : Ex := (.pr .add (.cons (.tup (.cons (.var 3) .nil)) (.cons (.var 4) .nil)))
noncomputable def b__law_ways_1 : Ss := (.cons (.asg 1 (.pr .add (.cons (.var 1) (.cons (.comp b__law_ways_0 [4] .seq (.cons (.call F__law_ways (.cons (.pr .ix (.cons (.var 2) (.cons (.var 3)
  .nil))) .nil)) .nil) .nil) .nil)))) .nil)
noncomputable def f__law_ways : Fn := ⟨1, 5, (.cons (.asg 1 (.lst (.cons (.tup .nil) .nil))) (.cons (.asg 2 (.call F__law_parts (.cons (.var 0) .nil))) (.cons (.for [3] .rng (.cons (.pr .len
  (.cons (.var 2) .nil)) .nil) b__law_ways_1) (.cons (.ret (.var 1)) .nil))))⟩
noncomputable def f__law_with : Fn := ⟨3, 4, (.cons (.ifs (.pr .eq (.cons (.var 1) (.cons (.tup .nil) .nil))) (.cons (.ret (.var 2)) .nil) .nil) (.cons (.asg 3 (.call F__law_parts (.cons (.var 0)
  .nil))) (.cons (.six 3 (.pr .ix (.cons (.var 1) (.cons (.con (.int 0)) .nil))) (.call F__law_with (.cons (.pr .ix (.cons (.var 3) (.cons (.pr .ix (.cons (.var 1) (.cons (.con
  (.int 0)) .nil))) .nil))) (.cons (.slc (.var 1) (.cons (.con (.int 1)) .nil) .nil) (.cons (.var 2) .nil))))) (.cons (.ifs (.pr .eq (.cons (.pr .ix (.cons (.var 0) (.cons (.con
  (.int 0)) .nil))) (.cons (.con (.str (⟨#[112, 117, 116]⟩ : Str))) .nil))) (.cons (.ret (.tup (.cons (.con (.str (⟨#[112, 117, 116]⟩ : Str))) (.cons (.pr .ix (.cons (.var 3) (.cons
  (.con (.int 0)) .nil))) (.cons (.pr .tupO (.cons (.slc (.var 3) (.cons (.con (.int 1)) .nil) .nil) .nil)) .nil))))) .nil) .nil) (.cons (.ret (.tup (.cons (.con (.str (⟨#[114, 111,
  117, 110, 100]⟩ : Str))) (.cons (.pr .ix (.cons (.var 3) (.cons (.con (.int 0)) .nil))) (.cons (.pr .ix (.cons (.var 3) (.cons (.con (.int 1)) .nil))) .nil))))) .nil)))))⟩
noncomputable def b__law_is_0 : Ex := (.call F__law_is (.cons (.var 6) .nil))
noncomputable def f__law_is : Fn := ⟨1, 7, (.cons (.ifs (.or (.not (.pr (.isi 3) (.cons (.var 0) .nil))) (.pr .nin (.cons (.pr .len (.cons (.var 0) .nil)) (.cons (.tup (.cons (.con (.int 1))
  (.cons (.con (.int 2)) (.cons (.con (.int 3)) .nil)))) .nil)))) (.cons (.ret (.pr .neg (.cons (.con (.int 1)) .nil))) .nil) .nil) (.cons (.asg 1 (.pr .ix (.cons (.var 0) (.cons
  (.con (.int 0)) .nil)))) (.cons (.ifs (.pr .eq (.cons (.pr .len (.cons (.var 0) .nil)) (.cons (.con (.int 1)) .nil))) (.cons (.ret (.ite (.pr .eq (.cons (.var 1) (.cons (.con
  (.str (⟨#[110, 101, 120, 116]⟩ : Str))) .nil))) (.con (.int 1)) (.pr .neg (.cons (.con (.int 1)) .nil)))) .nil) .nil) (.cons (.ifs (.pr .eq (.cons (.pr .len (.cons (.var 0) .nil))
  (.cons (.con (.int 2)) .nil))) (.cons (.ret (.ite (.and (.pr .eq (.cons (.var 1) (.cons (.con (.str (⟨#[110, 111, 117, 103, 104, 116]⟩ : Str))) .nil))) (.and (.call F__law_whole
  (.cons (.pr .ix (.cons (.var 0) (.cons (.con (.int 1)) .nil))) .nil)) (.chn [.le, .le] (.con (.int 0)) (.cons (.pr .ix (.cons (.var 0) (.cons (.con (.int 1)) .nil))) (.cons (.con
  (.int 4)) .nil))))) (.pr .ix (.cons (.var 0) (.cons (.con (.int 1)) .nil))) (.pr .neg (.cons (.con (.int 1)) .nil)))) .nil) .nil) (.cons (.ifs (.pr .eq (.cons (.var 1) (.cons
  (.con (.str (⟨#[112, 108, 97, 99, 101]⟩ : Str))) .nil))) (.cons (.asg 2 (.and (.call F__law_whole (.cons (.pr .ix (.cons (.var 0) (.cons (.con (.int 1)) .nil))) .nil)) (.and
  (.call F__law_whole (.cons (.pr .ix (.cons (.var 0) (.cons (.con (.int 2)) .nil))) .nil)) (.chn [.le, .lt, .le] (.con (.int 0)) (.cons (.pr .ix (.cons (.var 0) (.cons (.con (.int
  2)) .nil))) (.cons (.pr .ix (.cons (.var 0) (.cons (.con (.int 1)) .nil))) (.cons (.con (.int 4)) .nil))))))) (.cons (.ret (.ite (.var 2) (.pr .ix (.cons (.var 0) (.cons (.con
  (.int 1)) .nil))) (.pr .neg (.cons (.con (.int 1)) .nil)))) .nil)) .nil) (.cons (.ifs (.and (.pr .eq (.cons (.var 1) (.cons (.con (.str (⟨#[112, 117, 116]⟩ : Str))) .nil))) (.and
  (.pr (.isi 3) (.cons (.pr .ix (.cons (.var 0) (.cons (.con (.int 2)) .nil))) .nil)) (.pr .ne (.cons (.pr .ix (.cons (.var 0) (.cons (.con (.int 2)) .nil))) (.cons (.tup .nil)
  .nil))))) (.cons (.asg 3 (.comp b__law_is_0 [6] .seq (.cons (.pr .ix (.cons (.var 0) (.cons (.con (.int 2)) .nil))) .nil) .nil)) (.cons (.asg 4 (.pr .eq (.cons (.var 3) (.cons
  (.pr .mul (.cons (.slc (.var 3) .nil (.cons (.con (.int 1)) .nil)) (.cons (.pr .len (.cons (.var 3) .nil)) .nil))) .nil)))) (.cons (.ret (.ite (.and (.var 4) (.pr .eq (.cons
  (.call F__law_is (.cons (.pr .ix (.cons (.var 0) (.cons (.con (.int 1)) .nil))) .nil)) (.cons (.pr .len (.cons (.var 3) .nil)) .nil)))) (.pr .ix (.cons (.var 3) (.cons (.con (.int
  0)) .nil))) (.pr .neg (.cons (.con (.int 1)) .nil)))) .nil))) .nil) (.cons (.ifs (.pr .eq (.cons (.var 1) (.cons (.con (.str (⟨#[114, 111, 117, 110, 100]⟩ : Str))) .nil))) (.cons
  (.asg 5 (.call F__law_is (.cons (.pr .ix (.cons (.var 0) (.cons (.con (.int 1)) .nil))) .nil))) (.cons (.ret (.ite (.and (.chn [.le, .le] (.con (.int 0)) (.cons (.var 5) (.cons
  (.con (.int 3)) .nil))) (.pr .eq (.cons (.call F__law_is (.cons (.pr .ix (.cons (.var 0) (.cons (.con (.int 2)) .nil))) .nil)) (.cons (.pr .add (.cons (.var 5) (.cons (.con (.int
  2)) .nil))) .nil)))) (.pr .add (.cons (.var 5) (.cons (.con (.int 1)) .nil))) (.pr .neg (.cons (.con (.int 1)) .nil)))) .nil)) .nil) (.cons (.ret (.pr .neg (.cons (.con (.int 1))
  .nil))) .nil))))))))⟩
noncomputable def b_law_k11_0 : Ss := (.cons (.asg 7 (.tup (.cons (.con (.str (⟨#[112, 117, 116]⟩ : Str))) (.cons (.tup (.cons (.con (.str (⟨#[110, 101, 120, 116]⟩ : Str))) .nil)) (.cons (.tup
  (.cons (.var 7) .nil)) .nil))))) .nil)
noncomputable def b_law_k11_1 : Ss := (.cons (.asg 9 (.pr .ix (.cons (.lst (.cons (.con .none) (.cons (.tup .nil) (.cons (.tup (.cons (.con (.str (⟨#[110, 101, 120, 116]⟩ : Str))) (.cons (.con
  (.int 1)) .nil))) (.cons (.tup (.cons (.con (.str (⟨#[110, 111, 117, 103, 104, 116]⟩ : Str))) (.cons (.con (.int 5)) .nil))) (.cons (.tup (.cons (.con (.str (⟨#[112, 117, 116]⟩ :
  Str))) (.cons (.tup (.cons (.con (.str (⟨#[110, 101, 120, 116]⟩ : Str))) .nil)) (.cons (.tup (.cons (.var 7) (.cons (.var 7) .nil))) .nil)))) .nil)))))) (.cons (.pr .mod (.cons
  (.call F__law_cell (.cons (.var 0) (.cons (.con (.int 1)) .nil))) (.cons (.con (.int 5)) .nil))) .nil)))) (.cons (.ret (.pr .eq (.cons (.lst (.cons (.call F__law_changed (.cons
  (.var 1) (.cons (.var 3) (.cons (.var 9) .nil)))) (.cons (.call F__law_changed (.cons (.var 1) (.cons (.pr .add (.cons (.var 3) (.cons (.tup (.cons (.con (.int 9)) .nil)) .nil)))
  (.cons (.var 9) .nil)))) .nil))) (.cons (.lst (.cons (.con (.str (⟨#[116, 101, 114, 109]⟩ : Str))) (.cons (.con (.str (⟨#[119, 97, 121]⟩ : Str))) .nil))) .nil)))) .nil))
noncomputable def b_law_k11_2 : Ss := (.cons (.asg 7 (.tup (.cons (.con (.str (⟨#[110, 111, 117, 103, 104, 116]⟩ : Str))) (.cons (.var 4) .nil)))) (.cons (.for [8] .rng (.cons (.con (.int 29))
  .nil) b_law_k11_0) (.cons (.asg 6 (.call F__law_with (.cons (.var 1) (.cons (.var 3) (.cons (.var 7) .nil))))) (.cons (.ifs (.pr .gt (.cons (.call F__law_size (.cons (.var 6)
  .nil)) (.cons (.con (.int 60)) .nil))) (.cons (.asg 6 (.con (.str (⟨#[98, 105, 103]⟩ : Str)))) .nil) .nil) (.cons (.ifs (.pr .ne (.cons (.call F__law_changed (.cons (.var 1)
  (.cons (.var 3) (.cons (.var 7) .nil)))) (.cons (.var 6) .nil))) (.cons (.ret (.con (.bool false))) .nil) .nil) b_law_k11_1)))))
noncomputable def f_law_k11 : Fn := ⟨1, 10, (.cons (.asg 1 (.call F__law_drawn (.cons (.var 0) (.cons (.con (.int 2)) .nil)))) (.cons (.asg 2 (.call F__law_ways (.cons (.var 1) .nil))) (.cons
  (.asg 3 (.pr .ix (.cons (.var 2) (.cons (.pr .mod (.cons (.call F__law_cell (.cons (.var 0) (.cons (.con (.int 0)) .nil))) (.cons (.pr .len (.cons (.var 2) .nil)) .nil))) .nil))))
  (.cons (.asg 4 (.call F__law_places (.cons (.call F__law_at (.cons (.var 1) (.cons (.var 3) .nil))) .nil))) (.cons (.asg 5 (.call F__law_other (.cons (.var 0) (.cons (.var 4)
  .nil)))) (.cons (.asg 6 (.con (.str (⟨#[116, 101, 114, 109]⟩ : Str)))) (.cons (.ifs (.pr .eq (.cons (.call F__law_places (.cons (.var 5) .nil)) (.cons (.var 4) .nil))) (.cons
  (.asg 6 (.call F__law_with (.cons (.var 1) (.cons (.var 3) (.cons (.var 5) .nil))))) (.cons (.ifs (.pr .gt (.cons (.call F__law_size (.cons (.var 6) .nil)) (.cons (.con (.int 60))
  .nil))) (.cons (.asg 6 (.con (.str (⟨#[98, 105, 103]⟩ : Str)))) .nil) .nil) .nil)) .nil) (.cons (.ifs (.pr .ne (.cons (.call F__law_changed (.cons (.var 1) (.cons (.var 3) (.cons
  (.var 5) .nil)))) (.cons (.var 6) .nil))) (.cons (.ret (.con (.bool false))) .nil) .nil) b_law_k11_2))))))))⟩
noncomputable def f_law_k13 : Fn := ⟨1, 3, (.cons (.asg 1 (.call F__law_near (.cons (.var 0) (.cons (.con (.int 2)) .nil)))) (.cons (.asg 2 (.call F_turns (.cons (.var 1) .nil))) (.cons (.ret
  (.and (.pr (.isi 4) (.cons (.var 2) .nil)) (.pr .eq (.cons (.var 2) (.cons (.call F__law_turns (.cons (.var 1) .nil)) .nil))))) .nil)))⟩
noncomputable def f__law_places : Fn := ⟨1, 1, (.cons (.ifs (.pr .eq (.cons (.pr .ix (.cons (.var 0) (.cons (.con (.int 0)) .nil))) (.cons (.con (.str (⟨#[110, 101, 120, 116]⟩ : Str))) .nil)))
  (.cons (.ret (.con (.int 1))) .nil) .nil) (.cons (.ifs (.pr .eq (.cons (.pr .ix (.cons (.var 0) (.cons (.con (.int 0)) .nil))) (.cons (.con (.str (⟨#[112, 117, 116]⟩ : Str)))
  .nil))) (.cons (.ret (.call F__law_places (.cons (.pr .ix (.cons (.pr .ix (.cons (.var 0) (.cons (.con (.int 2)) .nil))) (.cons (.con (.int 0)) .nil))) .nil))) .nil) .nil) (.cons
  (.ifs (.pr .eq (.cons (.pr .ix (.cons (.var 0) (.cons (.con (.int 0)) .nil))) (.cons (.con (.str (⟨#[114, 111, 117, 110, 100]⟩ : Str))) .nil))) (.cons (.ret (.pr .add (.cons (.con
  (.int 1)) (.cons (.call F__law_places (.cons (.pr .ix (.cons (.var 0) (.cons (.con (.int 1)) .nil))) .nil)) .nil)))) .nil) .nil) (.cons (.ret (.pr .ix (.cons (.var 0) (.cons (.con
  (.int 1)) .nil)))) .nil))))⟩
noncomputable def b__law_value_0 : Ss := (.cons (.ifs (.pr .ntN (.cons (.var 3) .nil)) (.cons (.asg 3 (.call F__law_value (.cons (.pr .ix (.cons (.var 0) (.cons (.con (.int 2)) .nil))) (.cons
  (.pr .add (.cons (.lst (.cons (.var 4) (.cons (.pr .ix (.cons (.var 3) (.cons (.con (.int 0)) .nil))) .nil))) (.cons (.slc (.var 1) (.cons (.con (.int 1)) .nil) .nil) .nil)))
  (.cons (.pr .ix (.cons (.var 3) (.cons (.con (.int 1)) .nil))) .nil))))) .nil) .nil) .nil)
noncomputable def b__law_value_1 : Ss := (.cons (.asg 3 (.call F__law_value (.cons (.var 6) (.cons (.var 1) (.cons (.var 2) .nil))))) (.cons (.ifs (.pr .isN (.cons (.var 3) .nil)) (.cons (.ret
  (.con .none)) .nil) .nil) (.cons (.app 5 (.pr .ix (.cons (.var 3) (.cons (.con (.int 0)) .nil)))) (.cons (.asg 2 (.pr .ix (.cons (.var 3) (.cons (.con (.int 1)) .nil)))) .nil))))
noncomputable def f__law_value : Fn := ⟨3, 7, (.cons (.asg 2 (.pr .sub (.cons (.var 2) (.cons (.con (.int 1)) .nil)))) (.cons (.ifs (.pr .lt (.cons (.var 2) (.cons (.con (.int 0)) .nil))) (.cons
  (.ret (.con .none)) .nil) .nil) (.cons (.ifs (.pr .eq (.cons (.pr .ix (.cons (.var 0) (.cons (.con (.int 0)) .nil))) (.cons (.con (.str (⟨#[110, 111, 117, 103, 104, 116]⟩ : Str)))
  .nil))) (.cons (.ret (.tup (.cons (.con (.int 0)) (.cons (.var 2) .nil)))) .nil) .nil) (.cons (.ifs (.pr .eq (.cons (.pr .ix (.cons (.var 0) (.cons (.con (.int 0)) .nil))) (.cons
  (.con (.str (⟨#[110, 101, 120, 116]⟩ : Str))) .nil))) (.cons (.ret (.tup (.cons (.pr .add (.cons (.pr .ix (.cons (.var 1) (.cons (.con (.int 0)) .nil))) (.cons (.con (.int 1))
  .nil))) (.cons (.var 2) .nil)))) .nil) .nil) (.cons (.ifs (.pr .eq (.cons (.pr .ix (.cons (.var 0) (.cons (.con (.int 0)) .nil))) (.cons (.con (.str (⟨#[112, 108, 97, 99, 101]⟩ :
  Str))) .nil))) (.cons (.ret (.tup (.cons (.pr .ix (.cons (.var 1) (.cons (.pr .ix (.cons (.var 0) (.cons (.con (.int 2)) .nil))) .nil))) (.cons (.var 2) .nil)))) .nil) .nil)
  (.cons (.ifs (.pr .eq (.cons (.pr .ix (.cons (.var 0) (.cons (.con (.int 0)) .nil))) (.cons (.con (.str (⟨#[112, 117, 116]⟩ : Str))) .nil))) (.cons (.asg 5 (.lst .nil)) (.cons
  (.for [6] .seq (.cons (.pr .ix (.cons (.var 0) (.cons (.con (.int 2)) .nil))) .nil) b__law_value_1) (.cons (.ret (.call F__law_value (.cons (.pr .ix (.cons (.var 0) (.cons (.con
  (.int 1)) .nil))) (.cons (.var 5) (.cons (.var 2) .nil))))) .nil))) .nil) (.cons (.asg 3 (.call F__law_value (.cons (.pr .ix (.cons (.var 0) (.cons (.con (.int 1)) .nil))) (.cons
  (.slc (.var 1) (.cons (.con (.int 1)) .nil) .nil) (.cons (.var 2) .nil))))) (.cons (.for [4] .rng (.cons (.pr .ix (.cons (.var 1) (.cons (.con (.int 0)) .nil))) .nil)
  b__law_value_0) (.cons (.ret (.var 3)) .nil)))))))))⟩
noncomputable def b__law_numbers_0 : Ex := (.pr .mod (.cons (.pr .ix (.cons (.var 2) (.cons (.var 3) .nil))) (.cons (.con (.int 5)) .nil)))
noncomputable def f__law_numbers : Fn := ⟨2, 4, (.cons (.asg 2 (.call F__law_row (.cons (.var 0) (.cons (.con (.int 1)) .nil)))) (.cons (.ret (.comp b__law_numbers_0 [3] .rng (.cons (.var 1)
  .nil) .nil)) .nil))⟩
noncomputable def b__law_near_0 : Ss := (.cons (.asg 9 (.pr .mod (.cons (.pr .ix (.cons (.var 2) (.cons (.pr .add (.cons (.con (.int 4)) (.cons (.var 8) .nil))) .nil))) (.cons (.con (.int 6))
  .nil)))) (.cons (.asg 10 (.call F__law_leaf (.cons (.pr .fdiv (.cons (.pr .ix (.cons (.var 2) (.cons (.pr .add (.cons (.con (.int 4)) (.cons (.var 8) .nil))) .nil))) (.cons (.con
  (.int 6)) .nil))) (.cons (.var 4) .nil)))) (.cons (.ifs (.pr .lt (.cons (.var 9) (.cons (.con (.int 2)) .nil))) (.cons (.asg 10 (.tup (.cons (.con (.str (⟨#[110, 111, 117, 103,
  104, 116]⟩ : Str))) (.cons (.var 4) .nil)))) .nil) (.cons (.ifs (.pr .lt (.cons (.var 9) (.cons (.con (.int 4)) .nil))) (.cons (.asg 10 (.tup (.cons (.con (.str (⟨#[112, 117,
  116]⟩ : Str))) (.cons (.tup (.cons (.con (.str (⟨#[110, 101, 120, 116]⟩ : Str))) .nil)) (.cons (.tup (.cons (.var 10) .nil)) .nil))))) .nil) (.cons (.ifs (.pr .eq (.cons (.var 9)
  (.cons (.con (.int 4)) .nil))) (.cons (.asg 10 (.pr .ix (.cons (.call F__law_grown (.cons (.var 2) (.cons (.con (.int 30)) (.cons (.var 4) (.cons (.con (.int 1)) .nil))))) (.cons
  (.con (.int 0)) .nil)))) .nil) .nil) .nil)) .nil)) (.cons (.app 7 (.var 10)) .nil))))
noncomputable def b__law_near_1 : Ex := (.tup (.cons (.con (.str (⟨#[112, 108, 97, 99, 101]⟩ : Str))) (.cons (.var 5) (.cons (.var 8) .nil))))
noncomputable def b__law_near_2 : Ss := (.cons (.for [8] .rng (.cons (.var 5) .nil) b__law_near_0) (.cons (.ifs (.and (.pr .eq (.cons (.var 3) (.cons (.con (.int 1)) .nil))) (.pr .lt (.cons (.var
  5) (.cons (.con (.int 4)) .nil)))) (.cons (.asg 7 (.comp b__law_near_1 [8] .rng (.cons (.var 5) .nil) .nil)) .nil) .nil) (.cons (.ret (.tup (.cons (.con (.str (⟨#[112, 117, 116]⟩
  : Str))) (.cons (.var 6) (.cons (.pr .tupO (.cons (.var 7) .nil)) .nil))))) .nil)))
noncomputable def b__law_near_3 : Ss := (.cons (.asg 6 (.pr .ix (.cons (.call F__law_grown (.cons (.var 2) (.cons (.con (.int 8)) (.cons (.var 5) (.cons (.pr .add (.cons (.con (.int 1)) (.cons
  (.pr .mod (.cons (.pr .ix (.cons (.var 2) (.cons (.con (.int 3)) .nil))) (.cons (.con (.int 2)) .nil))) .nil))) .nil))))) (.cons (.con (.int 0)) .nil)))) (.cons (.asg 7 (.lst
  .nil)) b__law_near_2))
noncomputable def f__law_near : Fn := ⟨2, 11, (.cons (.asg 2 (.call F__law_row (.cons (.var 0) (.cons (.var 1) .nil)))) (.cons (.asg 3 (.pr .mod (.cons (.pr .ix (.cons (.var 2) (.cons (.con (.int
  0)) .nil))) (.cons (.con (.int 6)) .nil)))) (.cons (.ifs (.pr .eq (.cons (.var 3) (.cons (.con (.int 0)) .nil))) (.cons (.ret (.pr .ix (.cons (.call F__law_grown (.cons (.var 2)
  (.cons (.con (.int 3)) (.cons (.pr .mod (.cons (.pr .ix (.cons (.var 2) (.cons (.con (.int 1)) .nil))) (.cons (.con (.int 5)) .nil))) (.cons (.pr .add (.cons (.con (.int 1))
  (.cons (.pr .mod (.cons (.pr .ix (.cons (.var 2) (.cons (.con (.int 2)) .nil))) (.cons (.con (.int 3)) .nil))) .nil))) .nil))))) (.cons (.con (.int 0)) .nil)))) .nil) .nil) (.cons
  (.asg 4 (.pr .mod (.cons (.pr .ix (.cons (.var 2) (.cons (.con (.int 1)) .nil))) (.cons (.con (.int 4)) .nil)))) (.cons (.asg 5 (.pr .add (.cons (.con (.int 1)) (.cons (.pr .mod
  (.cons (.pr .ix (.cons (.var 2) (.cons (.con (.int 2)) .nil))) (.cons (.con (.int 3)) .nil))) .nil)))) b__law_near_3)))))⟩
noncomputable def b_ways_of_0 : Ex := (.pr .add (.cons (.tup (.cons (.var 2) .nil)) (.cons (.var 4) .nil)))
noncomputable def b_ways_of_1 : Ss := (.cons (.ext 1 (.comp b_ways_of_0 [4] .seq (.cons (.call F_ways_of (.cons (.var 3) .nil)) .nil) .nil)) .nil)
noncomputable def f_ways_of : Fn := ⟨1, 5, (.cons (.asg 1 (.lst (.cons (.tup .nil) .nil))) (.cons (.for [2, 3] .enu (.cons (.call F_parts_right (.cons (.var 0) .nil)) .nil) b_ways_of_1) (.cons
  (.ret (.var 1)) .nil)))⟩
noncomputable def b__law_at_0 : Ss := (.cons (.asg 0 (.pr .ix (.cons (.call F__law_parts (.cons (.var 0) .nil)) (.cons (.var 2) .nil)))) .nil)
noncomputable def f__law_at : Fn := ⟨2, 3, (.cons (.for [2] .seq (.cons (.var 1) .nil) b__law_at_0) (.cons (.ret (.var 0)) .nil))⟩
noncomputable def f_changed : Fn := ⟨3, 4, (.cons (.asg 3 (.call F_part (.cons (.var 0) (.cons (.var 1) .nil)))) (.cons (.ifs (.pr .ne (.cons (.call F_arity (.cons (.var 2) .nil)) (.cons (.call
  F_arity (.cons (.var 3) .nil)) .nil))) (.cons (.raise .BadTerm) .nil) .nil) (.cons (.ret (.call F_looked (.cons (.call F_with_part (.cons (.var 0) (.cons (.var 1) (.cons (.var 2)
  .nil)))) .nil))) .nil)))⟩
noncomputable def f__law_other : Fn := ⟨2, 4, (.cons (.asg 2 (.call F__law_row (.cons (.var 0) (.cons (.con (.int 3)) .nil)))) (.cons (.asg 3 (.ite (.pr .gt (.cons (.pr .mod (.cons (.pr .ix
  (.cons (.var 2) (.cons (.con (.int 0)) .nil))) (.cons (.con (.int 4)) .nil))) (.cons (.con (.int 0)) .nil))) (.var 1) (.pr .mod (.cons (.pr .fdiv (.cons (.pr .ix (.cons (.var 2)
  (.cons (.con (.int 0)) .nil))) (.cons (.con (.int 4)) .nil))) (.cons (.con (.int 5)) .nil))))) (.cons (.ret (.pr .ix (.cons (.call F__law_grown (.cons (.var 2) (.cons (.con (.int
  1)) (.cons (.var 3) (.cons (.pr .add (.cons (.con (.int 1)) (.cons (.pr .mod (.cons (.pr .fdiv (.cons (.pr .ix (.cons (.var 2) (.cons (.con (.int 0)) .nil))) (.cons (.con (.int
  20)) .nil))) (.cons (.con (.int 3)) .nil))) .nil))) .nil))))) (.cons (.con (.int 0)) .nil)))) .nil)))⟩
noncomputable def f__law_changed : Fn := ⟨3, 3, (.cons (.try (.cons (.ret (.call F_changed (.cons (.var 0) (.cons (.var 1) (.cons (.var 2) .nil))))) .nil) (.cons .BadWay none (.cons (.ret (.con
  (.str (⟨#[119, 97, 121]⟩ : Str)))) .nil) (.cons .BadTerm none (.cons (.ret (.con (.str (⟨#[116, 101, 114, 109]⟩ : Str)))) .nil) (.cons .TooBig none (.cons (.ret (.con (.str
  (⟨#[98, 105, 103]⟩ : Str)))) .nil) .nil)))) .nil)⟩
noncomputable def f_done : Fn := ⟨2, 3, (.cons (.ifs (.or (.pr .ne (.cons (.pr .ix (.cons (.var 0) (.cons (.con (.int 0)) .nil))) (.cons (.con (.str (⟨#[112, 117, 116]⟩ : Str))) .nil))) (.or
  (.not (.pr (.isi 2) (.cons (.var 1) .nil))) (.inD (⟨#[82, 85, 76, 69, 83]⟩ : Str) k_RULES true (.var 1)))) (.cons (.ret (.con .none)) .nil) .nil) (.disp 2 (⟨#[82, 85, 76, 69, 83]⟩
  : Str) kf_RULES (.var 1) (.cons (.pr .ix (.cons (.var 0) (.cons (.con (.int 1)) .nil))) (.cons (.pr .ix (.cons (.var 0) (.cons (.con (.int 2)) .nil))) .nil))))⟩
noncomputable def b_turns_of_0 : Ex := (.tup (.cons (.var 2) (.cons (.var 4) .nil)))
noncomputable def b_turns_of_1 : Ss := (.cons (.asg 3 (.call F_part_at (.cons (.var 0) (.cons (.var 2) .nil)))) (.cons (.ext 1 (.comp b_turns_of_0 [4] .seq (.cons (.keysS (⟨#[82, 85, 76, 69, 83]⟩
  : Str) s_RULES) .nil) (.cons (.pr .ntN (.cons (.call F_done (.cons (.var 3) (.cons (.var 4) .nil))) .nil)) .nil))) .nil))
noncomputable def f_turns_of : Fn := ⟨1, 5, (.cons (.asg 1 (.lst .nil)) (.cons (.for [2] .seq (.cons (.call F_ways_of (.cons (.var 0) .nil)) .nil) b_turns_of_1) (.cons (.ret (.var 1)) .nil)))⟩
noncomputable def f_turns : Fn := ⟨1, 1, (.cons (.ret (.call F_turns_of (.cons (.call F_checked (.cons (.var 0) .nil)) .nil))) .nil)⟩
noncomputable def b__law_lifted_0 : Ex := (.call F__law_lifted (.cons (.var 2) (.cons (.var 1) .nil)))
noncomputable def f__law_lifted : Fn := ⟨2, 3, (.cons (.ifs (.pr .eq (.cons (.pr .ix (.cons (.var 0) (.cons (.con (.int 0)) .nil))) (.cons (.con (.str (⟨#[112, 117, 116]⟩ : Str))) .nil))) (.cons
  (.ret (.tup (.cons (.con (.str (⟨#[112, 117, 116]⟩ : Str))) (.cons (.pr .ix (.cons (.var 0) (.cons (.con (.int 1)) .nil))) (.cons (.pr .tupO (.cons (.comp b__law_lifted_0 [2] .seq
  (.cons (.pr .ix (.cons (.var 0) (.cons (.con (.int 2)) .nil))) .nil) .nil) .nil)) .nil))))) .nil) .nil) (.cons (.ret (.tup (.cons (.con (.str (⟨#[110, 111, 117, 103, 104, 116]⟩ :
  Str))) (.cons (.var 1) .nil)))) .nil))⟩
noncomputable def b__law_ruled_0 : Ex := (.tup (.cons (.con (.str (⟨#[112, 117, 116]⟩ : Str))) (.cons (.var 9) (.cons (.pr .ix (.cons (.var 0) (.cons (.con (.int 2)) .nil))) .nil))))
noncomputable def b__law_ruled_1 : Ex := (.tup (.cons (.con (.str (⟨#[112, 108, 97, 99, 101]⟩ : Str))) (.cons (.var 4) (.cons (.var 8) .nil))))
noncomputable def f__law_ruled : Fn := ⟨2, 10, (.cons (.ifs (.pr .ne (.cons (.pr .ix (.cons (.var 0) (.cons (.con (.int 0)) .nil))) (.cons (.con (.str (⟨#[112, 117, 116]⟩ : Str))) .nil))) (.cons
  (.ret (.con .none)) .nil) .nil) (.cons (.asg 2 (.pr .ix (.cons (.var 0) (.cons (.con (.int 1)) .nil)))) (.cons (.asg 3 (.pr .lstO (.cons (.pr .ix (.cons (.var 0) (.cons (.con
  (.int 2)) .nil))) .nil))) (.cons (.asg 4 (.call F__law_places (.cons (.var 0) .nil))) (.cons (.ifs (.pr .eq (.cons (.var 1) (.cons (.con (.str (⟨#[110, 111, 117, 103, 104, 116]⟩ :
  Str))) .nil))) (.cons (.ret (.ite (.pr .eq (.cons (.pr .ix (.cons (.var 2) (.cons (.con (.int 0)) .nil))) (.cons (.con (.str (⟨#[110, 111, 117, 103, 104, 116]⟩ : Str))) .nil)))
  (.tup (.cons (.con (.str (⟨#[110, 111, 117, 103, 104, 116]⟩ : Str))) (.cons (.var 4) .nil))) (.con .none))) .nil) .nil) (.cons (.ifs (.pr .eq (.cons (.var 1) (.cons (.con (.str
  (⟨#[112, 108, 97, 99, 101]⟩ : Str))) .nil))) (.cons (.ret (.ite (.pr .eq (.cons (.pr .ix (.cons (.var 2) (.cons (.con (.int 0)) .nil))) (.cons (.con (.str (⟨#[112, 108, 97, 99,
  101]⟩ : Str))) .nil))) (.pr .ix (.cons (.var 3) (.cons (.pr .ix (.cons (.var 2) (.cons (.con (.int 2)) .nil))) .nil))) (.con .none))) .nil) .nil) (.cons (.ifs (.pr .eq (.cons
  (.var 1) (.cons (.con (.str (⟨#[119, 104, 111, 108, 101]⟩ : Str))) .nil))) (.cons (.asg 5 (.comp b__law_ruled_1 [8] .rng (.cons (.var 4) .nil) .nil)) (.cons (.ret (.ite (.pr .eq
  (.cons (.var 3) (.cons (.var 5) .nil))) (.var 2) (.con .none))) .nil)) .nil) (.cons (.ifs (.and (.pr .eq (.cons (.var 1) (.cons (.con (.str (⟨#[116, 104, 114, 111, 117, 103, 104]⟩
  : Str))) .nil))) (.pr .eq (.cons (.pr .ix (.cons (.var 2) (.cons (.con (.int 0)) .nil))) (.cons (.con (.str (⟨#[112, 117, 116]⟩ : Str))) .nil)))) (.cons (.ret (.tup (.cons (.con
  (.str (⟨#[112, 117, 116]⟩ : Str))) (.cons (.pr .ix (.cons (.var 2) (.cons (.con (.int 1)) .nil))) (.cons (.pr .tupO (.cons (.comp b__law_ruled_0 [9] .seq (.cons (.pr .ix (.cons
  (.var 2) (.cons (.con (.int 2)) .nil))) .nil) .nil) .nil)) .nil))))) .nil) .nil) (.cons (.ifs (.and (.pr .eq (.cons (.var 1) (.cons (.con (.str (⟨#[98, 101, 103, 105, 110]⟩ :
  Str))) .nil))) (.and (.pr .eq (.cons (.pr .ix (.cons (.var 2) (.cons (.con (.int 0)) .nil))) (.cons (.con (.str (⟨#[114, 111, 117, 110, 100]⟩ : Str))) .nil))) (.pr .eq (.cons (.pr
  .ix (.cons (.pr .ix (.cons (.var 3) (.cons (.con (.int 0)) .nil))) (.cons (.con (.int 0)) .nil))) (.cons (.con (.str (⟨#[110, 111, 117, 103, 104, 116]⟩ : Str))) .nil))))) (.cons
  (.ret (.ite (.pr .gt (.cons (.pr .len (.cons (.var 3) .nil)) (.cons (.con (.int 1)) .nil))) (.tup (.cons (.con (.str (⟨#[112, 117, 116]⟩ : Str))) (.cons (.pr .ix (.cons (.var 2)
  (.cons (.con (.int 1)) .nil))) (.cons (.pr .tupO (.cons (.slc (.var 3) (.cons (.con (.int 1)) .nil) .nil) .nil)) .nil)))) (.call F__law_lifted (.cons (.pr .ix (.cons (.var 2)
  (.cons (.con (.int 1)) .nil))) (.cons (.var 4) .nil))))) .nil) .nil) (.cons (.ifs (.and (.pr .eq (.cons (.var 1) (.cons (.con (.str (⟨#[109, 111, 114, 101]⟩ : Str))) .nil))) (.and
  (.pr .eq (.cons (.pr .ix (.cons (.var 2) (.cons (.con (.int 0)) .nil))) (.cons (.con (.str (⟨#[114, 111, 117, 110, 100]⟩ : Str))) .nil))) (.and (.pr .eq (.cons (.pr .ix (.cons
  (.pr .ix (.cons (.var 3) (.cons (.con (.int 0)) .nil))) (.cons (.con (.int 0)) .nil))) (.cons (.con (.str (⟨#[112, 117, 116]⟩ : Str))) .nil))) (.pr .eq (.cons (.pr .ix (.cons (.pr
  .ix (.cons (.var 3) (.cons (.con (.int 0)) .nil))) (.cons (.con (.int 1)) .nil))) (.cons (.tup (.cons (.con (.str (⟨#[110, 101, 120, 116]⟩ : Str))) .nil)) .nil)))))) (.cons (.asg
  6 (.pr .ix (.cons (.pr .ix (.cons (.pr .ix (.cons (.var 3) (.cons (.con (.int 0)) .nil))) (.cons (.con (.int 2)) .nil))) (.cons (.con (.int 0)) .nil)))) (.cons (.asg 7 (.tup
  (.cons (.con (.str (⟨#[112, 117, 116]⟩ : Str))) (.cons (.var 2) (.cons (.pr .tupO (.cons (.pr .add (.cons (.lst (.cons (.var 6) .nil)) (.cons (.slc (.var 3) (.cons (.con (.int 1))
  .nil) .nil) .nil))) .nil)) .nil))))) (.cons (.ret (.tup (.cons (.con (.str (⟨#[112, 117, 116]⟩ : Str))) (.cons (.pr .ix (.cons (.var 2) (.cons (.con (.int 2)) .nil))) (.cons (.pr
  .tupO (.cons (.pr .add (.cons (.lst (.cons (.var 6) (.cons (.var 7) .nil))) (.cons (.slc (.var 3) (.cons (.con (.int 1)) .nil) .nil) .nil))) .nil)) .nil))))) .nil))) .nil) (.cons
  (.ret (.con .none)) .nil)))))))))))⟩
noncomputable def b__law_turns_0 : Ss := (.cons (.ifs (.pr .ntN (.cons (.call F__law_ruled (.cons (.call F__law_at (.cons (.var 0) (.cons (.var 2) .nil))) (.cons (.var 3) .nil))) .nil)) (.cons
  (.app 1 (.tup (.cons (.var 2) (.cons (.var 3) .nil)))) .nil) .nil) .nil)
noncomputable def b__law_turns_1 : Ss := (.cons (.for [3] .seq (.cons (.lst (.cons (.con (.str (⟨#[98, 101, 103, 105, 110]⟩ : Str))) (.cons (.con (.str (⟨#[109, 111, 114, 101]⟩ : Str))) (.cons
  (.con (.str (⟨#[110, 111, 117, 103, 104, 116]⟩ : Str))) (.cons (.con (.str (⟨#[112, 108, 97, 99, 101]⟩ : Str))) (.cons (.con (.str (⟨#[116, 104, 114, 111, 117, 103, 104]⟩ : Str)))
  (.cons (.con (.str (⟨#[119, 104, 111, 108, 101]⟩ : Str))) .nil))))))) .nil) b__law_turns_0) .nil)
noncomputable def f__law_turns : Fn := ⟨1, 4, (.cons (.asg 1 (.lst .nil)) (.cons (.for [2] .seq (.cons (.call F__law_ways (.cons (.var 0) .nil)) .nil) b__law_turns_1) (.cons (.ret (.var 1))
  .nil)))⟩
noncomputable def f_turned : Fn := ⟨3, 4, (.cons (.exp (.call F_part (.cons (.var 0) (.cons (.var 1) .nil)))) (.cons (.asg 3 (.call F_turned_at (.cons (.var 0) (.cons (.var 1) (.cons (.var 2)
  .nil))))) (.cons (.ifs (.pr .isN (.cons (.var 3) .nil)) (.cons (.raise .BadTurn) .nil) .nil) (.cons (.ret (.call F_looked (.cons (.var 3) .nil))) .nil))))⟩
noncomputable def b_many_parts_0 : Ex := (.call F_many_parts (.cons (.var 1) .nil))
noncomputable def f_many_parts : Fn := ⟨1, 2, (.cons (.ret (.pr .add (.cons (.con (.int 1)) (.cons (.pr .sum (.cons (.comp b_many_parts_0 [1] .seq (.cons (.call F_parts_right (.cons (.var 0)
  .nil)) .nil) .nil) .nil)) .nil)))) .nil)⟩
noncomputable def b_by_parts_0 : Ex := (.con (.int 1))
noncomputable def b_by_parts_1 : Ex := (.call F_width (.cons (.var 5) .nil))
noncomputable def b_by_parts_2 : Ex := (.call F_width (.cons (.var 5) .nil))
noncomputable def f_by_parts : Fn := ⟨3, 9, (.cons (.asg 3 (.call F_parts_right (.cons (.var 0) .nil))) (.cons (.asg 4 (.call F_parts_right (.cons (.var 1) .nil))) (.cons (.ifs (.or (.pr .ne
  (.cons (.pr .ix (.cons (.var 0) (.cons (.con (.int 0)) .nil))) (.cons (.pr .ix (.cons (.var 1) (.cons (.con (.int 0)) .nil))) .nil))) (.or (.pr .ne (.cons (.pr .len (.cons (.var
  3) .nil)) (.cons (.pr .len (.cons (.var 4) .nil)) .nil))) (.pr .ne (.cons (.pr .len (.cons (.var 2) .nil)) (.cons (.pr .len (.cons (.var 3) .nil)) .nil))))) (.cons (.ret (.con
  (.bool false))) .nil) .nil) (.cons (.ifs (.pr .ne (.cons (.comp b_by_parts_2 [5] .seq (.cons (.var 3) .nil) .nil) (.cons (.comp b_by_parts_1 [5] .seq (.cons (.var 4) .nil) .nil)
  .nil))) (.cons (.ret (.con (.bool false))) .nil) .nil) (.cons (.ret (.not (.comp b_by_parts_0 [6, 7, 8] .zip (.cons (.var 3) (.cons (.var 4) (.cons (.var 2) .nil))) (.cons (.not
  (.call F_shows (.cons (.var 6) (.cons (.var 7) (.cons (.var 8) .nil))))) .nil)))) .nil)))))⟩
noncomputable def f_at_nought : Fn := ⟨1, 2, (.cons (.asg 1 (.pr .sub (.cons (.call F_width (.cons (.var 0) .nil)) (.cons (.con (.int 1)) .nil)))) (.cons (.ret (.tup (.cons (.con (.str (⟨#[112,
  117, 116]⟩ : Str))) (.cons (.var 0) (.cons (.pr .add (.cons (.tup (.cons (.tup (.cons (.con (.str (⟨#[110, 111, 117, 103, 104, 116]⟩ : Str))) (.cons (.var 1) .nil))) .nil)) (.cons
  (.call F_all_places (.cons (.var 1) .nil)) .nil))) .nil))))) .nil))⟩
noncomputable def f_at_more : Fn := ⟨1, 2, (.cons (.asg 1 (.call F_all_places (.cons (.call F_width (.cons (.var 0) .nil)) .nil))) (.cons (.ret (.tup (.cons (.con (.str (⟨#[112, 117, 116]⟩ :
  Str))) (.cons (.var 0) (.cons (.pr .add (.cons (.tup (.cons (.tup (.cons (.con (.str (⟨#[112, 117, 116]⟩ : Str))) (.cons (.tup (.cons (.con (.str (⟨#[110, 101, 120, 116]⟩ : Str)))
  .nil)) (.cons (.slc (.var 1) .nil (.cons (.con (.int 1)) .nil)) .nil)))) .nil)) (.cons (.slc (.var 1) (.cons (.con (.int 1)) .nil) .nil) .nil))) .nil))))) .nil))⟩
noncomputable def f_by_then : Fn := ⟨2, 3, (.cons (.asg 2 (.call F_all_places (.cons (.call F_width (.cons (.var 1) .nil)) .nil))) (.cons (.ret (.tup (.cons (.con (.str (⟨#[112, 117, 116]⟩ :
  Str))) (.cons (.var 0) (.cons (.pr .add (.cons (.pr .add (.cons (.slc (.var 2) .nil (.cons (.con (.int 1)) .nil)) (.cons (.tup (.cons (.var 1) .nil)) .nil))) (.cons (.slc (.var 2)
  (.cons (.con (.int 1)) .nil) .nil) .nil))) .nil))))) .nil))⟩
noncomputable def f_shows : Fn := ⟨3, 4, (.cons (.ifs (.pr .eq (.cons (.pr .ix (.cons (.var 2) (.cons (.con (.int 0)) .nil))) (.cons (.con (.str (⟨#[116, 117, 114, 110, 115]⟩ : Str))) .nil)))
  (.cons (.ret (.call F_by_turns (.cons (.var 0) (.cons (.var 1) (.cons (.pr .ix (.cons (.var 2) (.cons (.con (.int 1)) .nil))) .nil))))) .nil) .nil) (.cons (.ifs (.pr .eq (.cons
  (.pr .ix (.cons (.var 2) (.cons (.con (.int 0)) .nil))) (.cons (.con (.str (⟨#[98, 97, 99, 107]⟩ : Str))) .nil))) (.cons (.ret (.call F_shows (.cons (.var 1) (.cons (.var 0)
  (.cons (.pr .ix (.cons (.var 2) (.cons (.con (.int 1)) .nil))) .nil))))) .nil) .nil) (.cons (.ifs (.pr .eq (.cons (.pr .ix (.cons (.var 2) (.cons (.con (.int 0)) .nil))) (.cons
  (.con (.str (⟨#[112, 97, 114, 116, 115]⟩ : Str))) .nil))) (.cons (.ret (.call F_by_parts (.cons (.var 0) (.cons (.var 1) (.cons (.pr .ix (.cons (.var 2) (.cons (.con (.int 1))
  .nil))) .nil))))) .nil) .nil) (.cons (.ifs (.pr .eq (.cons (.pr .ix (.cons (.var 2) (.cons (.con (.int 0)) .nil))) (.cons (.con (.str (⟨#[116, 104, 101, 110]⟩ : Str))) .nil)))
  (.cons (.asg 3 (.pr .ix (.cons (.var 2) (.cons (.con (.int 1)) .nil)))) (.cons (.ifs (.or (.not (.call F_is_term (.cons (.var 3) .nil))) (.pr .ne (.cons (.call F_width (.cons
  (.var 3) .nil)) (.cons (.call F_width (.cons (.var 0) .nil)) .nil)))) (.cons (.ret (.con (.bool false))) .nil) .nil) (.cons (.ret (.and (.call F_shows (.cons (.var 0) (.cons (.var
  3) (.cons (.pr .ix (.cons (.var 2) (.cons (.con (.int 2)) .nil))) .nil)))) (.call F_shows (.cons (.var 3) (.cons (.var 1) (.cons (.pr .ix (.cons (.var 2) (.cons (.con (.int 3))
  .nil))) .nil)))))) .nil))) .nil) (.cons (.ifs (.or (.pr .ne (.cons (.pr .ix (.cons (.var 1) (.cons (.con (.int 0)) .nil))) (.cons (.con (.str (⟨#[114, 111, 117, 110, 100]⟩ :
  Str))) .nil))) (.not (.call F_shows (.cons (.call F_at_nought (.cons (.var 0) .nil)) (.cons (.pr .ix (.cons (.var 1) (.cons (.con (.int 1)) .nil))) (.cons (.pr .ix (.cons (.var 2)
  (.cons (.con (.int 1)) .nil))) .nil)))))) (.cons (.ret (.con (.bool false))) .nil) .nil) (.cons (.ret (.call F_shows (.cons (.call F_at_more (.cons (.var 0) .nil)) (.cons (.call
  F_by_then (.cons (.pr .ix (.cons (.var 1) (.cons (.con (.int 2)) .nil))) (.cons (.var 0) .nil))) (.cons (.pr .ix (.cons (.var 2) (.cons (.con (.int 2)) .nil))) .nil)))))
  .nil))))))⟩
noncomputable def f_is_paper : Fn := ⟨3, 3, (.cons (.ifs (.pr .ne (.cons (.call F_arity (.cons (.var 0) .nil)) (.cons (.call F_arity (.cons (.var 1) .nil)) .nil))) (.cons (.raise .BadTerm) .nil)
  .nil) (.cons (.ifs (.pr .gt (.cons (.call F_many_papers (.cons (.var 2) (.cons (.glo (⟨#[77, 79, 83, 84, 95, 68, 69, 69, 80]⟩ : Str) g_MOST_DEEP) .nil))) (.cons (.glo (⟨#[77, 79,
  83, 84, 95, 80, 65, 80, 69, 82, 83]⟩ : Str) g_MOST_PAPERS) .nil))) (.cons (.ret (.con (.bool false))) .nil) .nil) (.cons (.ret (.call F_shows (.cons (.var 0) (.cons (.var 1)
  (.cons (.var 2) .nil))))) .nil)))⟩
end Rp
namespace Lk41
open PySem PySem.Spec PyProof.Rows L2 Rp
noncomputable def rLaw : Rp.Row := ⟨F_law, "law", 117, ["script", "way", "told", "under", "thing", "e", "at"], f_law_k41, none, false⟩
noncomputable def rs0 : List Rp.Row := [⟨F_is_within, "is_within", 19, ["thing", "low", "high"], f_is_within, none, false⟩,
  ⟨F_places_of, "places_of", 20, ["thing", "left"], f_places_of, none, false⟩,
  ⟨F_places_put, "places_put", 21, ["thing", "left", "outer", "many", "inner", "found"], f_places_put, none, false⟩,
  ⟨F_places_round, "places_round", 22, ["thing", "left", "first", "then"], f_places_round, none, false⟩,
  ⟨F_is_term, "is_term", 23, ["thing"], f_is_term, none, false⟩,
  ⟨F_checked, "checked", 24, ["term"], f_checked, none, false⟩,
  ⟨F_arity, "arity", 25, ["term"], f_arity, none, false⟩,
  ⟨F_are_numbers, "are_numbers", 27, ["thing", "many", "number"], f_are_numbers, none, false⟩,
  ⟨F_look_numbers, "look_numbers", 28, ["term", "numbers"], f_look_numbers, none, false⟩,
  ⟨F_value, "value", 32, ["term", "numbers"], f_value, none, false⟩,
  ⟨F_parts_right, "parts_right", 34, ["term"], f_parts_right, none, false⟩,
  ⟨F_part_at, "part_at", 35, ["term", "way", "found", "at", "inner"], f_part_at, none, false⟩,
  ⟨F_part, "part", 36, ["term", "way", "found"], f_part, none, false⟩,
  ⟨F_made_of, "made_of", 37, ["term", "inner"], f_made_of, none, false⟩,
  ⟨F_with_part, "with_part", 38, ["term", "way", "other", "inner"], f_with_part, none, false⟩,
  ⟨F_made, "made", 59, ["name"], f_made, none, false⟩,
  ⟨F_fixed, "fixed", 63, ["term", "at", "number", "many", "inner", "place"], f_fixed_k41, none, false⟩,
  ⟨F_gathered, "gathered", 65, ["term", "begin", "outer", "many", "places", "asked"], f_gathered_k41, none, false⟩,
  ⟨F_sum_below, "sum_below", 66, ["term"], f_sum_below, none, false⟩,
  ⟨F_done, "done", 77, ["term", "rule", "deed"], f_done_k41, none, false⟩,
  ⟨F_turned_at, "turned_at", 78, ["term", "way", "rule", "inner", "found"], f_turned_at, none, false⟩,
  ⟨F_turned, "turned", 79, ["term", "way", "rule", "found"], f_turned_k41, none, false⟩,
  ⟨F_many_papers, "many_papers", 83, ["thing", "deep", "inner", "found", "one"], f_many_papers, none, false⟩,
  ⟨F_papers_in, "papers_in", 86, ["thing", "many"], f_papers_in, none, false⟩,
  ⟨F_shorter, "shorter", 90, ["thing"], f_shorter_k41, none, false⟩,
  ⟨F_checked_program, "checked_program", 95, ["program"], f_checked_program_k41, none, false⟩,
  ⟨F_heard, "heard", 100, ["program", "boxes", "places", "out", "deeds", "box"], f_heard_k41, none, false⟩,
  ⟨F_read_next, "read_next", 112, ["taker", "left", "sign", "papers", "middle"], f_read_next_k41, none, true⟩,
  ⟨F_read_paper, "read_paper", 113, ["text", "taker", "found", "again"], f_read_paper_k41, none, false⟩,
  ⟨F__law_cell, "_law_cell", 115, ["script", "k"], f__law_cell, none, false⟩]
noncomputable def rs1 : List Rp.Row := [⟨F__law_refused_by, "_law_refused_by", 116, ["way"], f__law_refused_by, none, false⟩,
  rLaw,
  ⟨F_Reckoner_value, "value", 0, ["self", "term", "numbers", "word", "found", "time", "inner"], f_Reckoner_value, some "Reckoner", true⟩,
  ⟨F_Desk_back, "back", 0, ["self", "word", "row"], f_Desk_back_k41, some "Desk", true⟩,
  ⟨F_Taker_sign, "sign", 0, ["self"], f_Taker_sign, some "Taker", true⟩]
noncomputable def rs : List Rp.Row := rs0 ++ rs1
noncomputable def T0 : St0 := ⟨tabR rs, nameR rs, [("MOST_PARTS", g_MOST_PARTS), ("MOST_PLACES", g_MOST_PLACES), ("MOST_NUMBER", g_MOST_NUMBER), ("MOST_STEPS", g_MOST_STEPS), ("LETTERS", g_LETTERS), ("MOST_LETTERS", g_MOST_LETTERS), ("PLUS", g_PLUS), ("MOST_NUMERAL", g_MOST_NUMERAL), ("MOST_TURNS", g_MOST_TURNS), ("MOST_PAPERS", g_MOST_PAPERS), ("MOST_DEEP", g_MOST_DEEP), ("EMPTY_shorter", g_EMPTY_shorter), ("MOST_BOXES", g_MOST_BOXES), ("MOST_DEEDS", g_MOST_DEEDS), ("FIGURES", g_FIGURES)], [("PaperError", .PaperError), ("BadTerm", .BadTerm), ("BadNumbers", .BadNumbers), ("TooLong", .TooLong), ("BadProgram", .BadProgram), ("TooBig", .TooBig), ("BadText", .BadText), ("BadTurn", .BadTurn), ("BadPlace", .BadPlace), ("NoName", .NoName), ("BadPaper", .BadPaper)], [("BadName", .BadName), ("BadWay", .BadWay)], false, [("MADE", k_MADE), ("RULES", k_RULES)], [("MADE", kv_MADE)], [], isMR rs, [(F_Reckoner_value, "Reckoner", "value"), (F_Desk_back, "Desk", "back"), (F_Taker_sign, "Taker", "sign")], [(F_read_next, "read_next")], [("Reckoner", ini_Reckoner), ("Desk", ini_Desk), ("Taker", ini_Taker)], false, [], []⟩
noncomputable def loose0 : List PySem.Str := ["_wall",
  "PaperError",
  "BadTerm",
  "BadNumbers",
  "TooLong",
  "BadProgram",
  "BadName",
  "TooBig",
  "BadText",
  "BadWay",
  "BadTurn",
  "BadPlace",
  "NoName",
  "BadPaper",
  "MOST_PARTS",
  "MOST_PLACES",
  "MOST_NUMBER",
  "is_within",
  "places_of",
  "places_put",
  "places_round",
  "is_term",
  "checked",
  "arity",
  "size",
  "are_numbers",
  "look_numbers",
  "MOST_STEPS",
  "Reckoner",
  "value"]
noncomputable def loose1 : List PySem.Str := ["parts_right",
  "part_at",
  "part",
  "made_of",
  "with_part",
  "looked",
  "width",
  "LETTERS",
  "MOST_LETTERS",
  "Desk",
  "all_places",
  "NEXT",
  "BEFORE",
  "PLUS",
  "TIMES",
  "POWER",
  "LESS",
  "SIGN",
  "EMPTY_making",
  "EVEN",
  "MOST",
  "MADE",
  "made",
  "MOST_NUMERAL",
  "numeral_of",
  "fixed",
  "gathered",
  "sum_below",
  "MOST_TURNS",
  "lifted"]
noncomputable def loose2 : List PySem.Str := ["by_begin",
  "by_more",
  "by_nought",
  "by_place",
  "by_through",
  "by_whole",
  "RULES",
  "done",
  "turned_at",
  "turned",
  "MOST_PAPERS",
  "MOST_DEEP",
  "many_papers",
  "EMPTY_shorter",
  "papers_in",
  "are_rows",
  "then_shorter",
  "made_shorter",
  "shorter",
  "MOST_BOXES",
  "MOST_DEEDS",
  "are_deeds",
  "checked_program",
  "joined",
  "within_loop",
  "ahead_of",
  "heard",
  "FIGURES",
  "written",
  "Taker"]
noncomputable def loose3 : List PySem.Str := ["row_text",
  "paper_text",
  "shown_paper",
  "read_row",
  "read_rows",
  "read_two",
  "read_next",
  "read_paper",
  "_law_cell",
  "_law_refused_by"]
noncomputable def loose : List PySem.Str := loose0 ++ loose1 ++ loose2 ++ loose3
noncomputable abbrev R : PySem.W.OpenRow := PySem.W.OpenLaw.row PySem.Challenge.rw_roundproof_k41_refusals_stand_apart
noncomputable abbrev P0 : Program := R.prog
theorem rows_ok : rs.all (rowB P0 T0) = true := by kernel_rfl
/-- a world, told how it answers one question -/
noncomputable def updW (w : World) (b : Bool) : World := { w with params := { w.params with followText := fun s => if s == "special-get-raises" then b else w.params.followText s } }
theorem updW_eq (w : World) : updW w (w.params.followText "special-get-raises") = w := by
  have h : (fun s => if s == "special-get-raises" then w.params.followText "special-get-raises" else w.params.followText s) = w.params.followText := by
    funext s
    by_cases c : s = "special-get-raises"
    · subst c; simp
    · simp [c]
  unfold updW
  rw [h]
theorem run_ta (w : World) : runA R (PySem.W.view R.prog [117]) 20000 loose (updW w true) := by
  intro os
  kernel_rfl
theorem run_tb (w : World) : runB R 20000 1500 P0 rs T0 (updW w true) := by
  intro os
  kernel_rfl
theorem run_tc (w : World) : runC R 20000 1500 rs T0 (updW w true) := by
  intro os
  kernel_rfl
theorem run_fa (w : World) : runA R (PySem.W.view R.prog [117]) 20000 loose (updW w false) := by
  intro os
  kernel_rfl
theorem run_fb (w : World) : runB R 20000 1500 P0 rs T0 (updW w false) := by
  intro os
  kernel_rfl
theorem run_fc (w : World) : runC R 20000 1500 rs T0 (updW w false) := by
  intro os
  kernel_rfl
theorem run (w : World) : HandSHeadRun.RunEq R (PySem.W.view R.prog [117]) (hookR 1500 P0 rs T0) (obR 1500 P0 rs T0) 20000 loose w := by
  cases e : w.params.followText "special-get-raises" with
  | true => have h := run_split (n := 1500) (run_ta w) (run_tb w) (run_tc w); rw [← e, updW_eq] at h; exact h
  | false => have h := run_split (n := 1500) (run_fa w) (run_fb w) (run_fc w); rw [← e, updW_eq] at h; exact h

end Lk41
section
open PySem PySem.W PySem.Calls PyProof.Rows Rp
theorem Lk41.holds_of (hl : ∀ (ns : List Int), ns.length ≤ 63 → (callN (tabR Lk41.rs) 205).f F_law [.list (ns.map PyData.int)] = some (.inl (.val (.bool true)))) : PySem.Challenge.rw_roundproof_k41_refusals_stand_apart.Holds := by
  w_on; o_law
  refine HandSHeadRun.head_any (r := OpenLaw.row PySem.Challenge.rw_roundproof_k41_refusals_stand_apart) (q := view (OpenLaw.row PySem.Challenge.rw_roundproof_k41_refusals_stand_apart).prog [117]) (H := Rp.hookR 1500 Lk41.P0 Lk41.rs Lk41.T0) (ob := Rp.obR 1500 Lk41.P0 Lk41.rs Lk41.T0) (M := 20000) (loose := Lk41.loose) (d := HandSHeadRun.topDef (OpenLaw.row PySem.Challenge.rw_roundproof_k41_refusals_stand_apart).prog 117) (kwd := []) (Rp.obR_eq 1500 Lk41.P0 Lk41.rs Lk41.T0)
    (by kernel_rfl) (fun s => by kernel_rfl) Lk41.run (by kernel_rfl) (by kernel_rfl) (by kernel_rfl) (by rfl) (by first | assumption | decide +kernel) (by decide +kernel) ⟨rfl, rfl, rfl, rfl, rfl, by decide +kernel⟩ ?hw ?hc
  case hw => w_witness2
  case hc => exact Rp.end_of (l := PySem.Challenge.rw_roundproof_k41_refusals_stand_apart) (k := 205) (nl := 63) (f := Rp.F_law) (r := Lk41.rLaw) (x := "script") rfl (by rw [sizeLine_eq]; decide) (by kernel_rfl) ⟨rfl, by decide, by decide⟩ Lk41.rows_ok (by kernel_rfl) (by kernel_rfl) (by kernel_rfl) (by kernel_rfl) rfl rfl rfl (by kernel_rfl) rfl rfl (by kernel_rfl) (by kernel_rfl) (by kernel_rfl) hl
end
namespace Rp
open PySem
/-! Sp1: what the module of terms computes. -/
local macro_rules
  | `(tactic| walk_at "ev") => `(tactic| try simp (config := { decide := true, implicitDefEqProofs := false }) only [↓xs_nil, ↓xs_cons, ↓x_asg, ↓x_unp, ↓x_ifs, ↓x_for, ↓x_whl, ↓x_ret, ↓vi_eq, ↓x_pass, ↓x_brk, ↓x_exp, ↓x_raise, ↓x_raiseP, ↓x_try, ↓x_bad, ↓x_aug, ↓x_app, ↓x_ext, ↓x_inz, ↓x_six, ↓x_sixF, ↓x_augF, ↓x_augxF, ↓x_mk, ↓x_asgL, ↓x_sixL, ↓pe_eq, ↓v_var, ↓t_var, ↓v_con, ↓t_con, ↓v_glo, ↓t_glo, ↓t_tup, ↓t_lst, ↓t_pr, ↓t_chn, ↓t_slc, ↓t_call, ↓t_comp, ↓t_isx, ↓t_fld, ↓t_inD, ↓t_getD, ↓t_keysS, ↓t_compX, ↓t_fldO, ↓t_ixF, ↓t_mth, ↓t_mthN, ↓t_newm, ↓t_callK, ↓t_callD, ↓t_ixL, ↓t_mthL, ↓v_tup, ↓v_lst, ↓v_pr, ↓vs_nil, ↓ps_nil, ↓vs_cons, ↓ps_cons, ↓ts_nil, ↓ts_cons, ↓os_nil, ↓os_cons, ↓v_and, ↓t_and, ↓v_or, ↓t_or, ↓v_not, ↓t_not, ↓v_ite, ↓t_ite, ↓v_chn, ↓c_nil, ↓c_cons, ↓v_slc, ↓v_call, ↓v_callK, ↓v_callD, ↓v_comp, ↓v_compX, ↓v_isx, ↓v_fld, ↓v_inD, ↓v_getD, ↓v_keysS, ↓v_fldO, ↓v_ixF, ↓v_mth, ↓v_mthN, ↓v_newm, ↓v_ixL, ↓v_mthL, ↓xs_disp, ↓xh_nil, ↓xh_cons, ↓run_F, sqR_nx, sqR_rt, sqR_bk, sqR_ct, sqR_ex, sqR_no, sqR_if, asgR_ok, asgR_ex, asgR_no, asgR_if, unpB_s, unpB_n, unpR_ex, unpR_no, unpR_if, unpR_ok, ifR_ok, ifR_ex, ifR_no, ifR_if, forR_ok, forR_ex, forR_no, forR_if, rtR_ok, rtR_ex, rtR_no, rtR_if, retV_o, retV_v, retV_x, retV_b, retV_l, retV_n, retE_s, retE_n, expR_ok, expR_ex, expR_no, expR_if, rsR_ok, rsR_ex, rsR_no, rsR_if, tryH_ok, tryH_ex, tryH_no, tryH_if, pkV_v, pkV_o, pkV_x, pkV_b, pkV_l, pkV_n, pkE_s, pkE_n, varR_o, varR_v, varR_x, varR_b, varR_l, varR_n, vtR_o, vtR_v, vtR_x, vtR_b, vtR_l, vtR_n, tuR_ok, tuR_ex, tuR_no, tuR_if, lsR_ok, lsR_ex, lsR_no, lsR_if, prR_ok, prR_ex, prR_no, prR_if, vdR_ok, vdR_ex, vdR_no, vdR_if, vcR_ok, vcR_ex, vcR_no, vcR_if, pcR_ok, pcR_ex, pcR_no, pcR_if, anV_ok, anV_ex, anV_no, anV_if, orV_ok, orV_ex, orV_no, orV_if, anT_ok, anT_ex, anT_no, anT_if, orT_ok, orT_ex, orT_no, orT_if, noV_ok, noV_ex, noV_no, noV_if, noT_ok, noT_ex, noT_no, noT_if, iteV_ok, iteV_ex, iteV_no, iteV_if, iteT_ok, iteT_ex, iteT_no, iteT_if, chnR_ok, chnR_ex, chnR_no, chnR_if, chB_ok, chB_ex, chB_no, slC_ok, slC_ex, slC_no, slC_if, slB_ok, slB_ex, slB_no, slB_if, slR_ok, slR_ex, slR_no, slR_if, ccR_l, ccR_r, ccR_n, caR_ok, caR_ex, caR_no, caR_if, cdR_ok, cdR_ex, cdR_no, cdR_if, cmR_ok, cmR_ex, cmR_no, cmR_if, cxR_ok, cxR_ex, cxR_no, cxR_if, hcR_n, hcR_s, retOwn, peekR, denTs, denTs, Rs.bind_ok, Rs.bind_ex, Rs.bind_no, Rs.bind_ite, frz_v, frz_o, frz_x, frz_n, frz_i, tr_non, tr_bl, tr_int, tr_lst, tr_tup, tr_x, tr_n, tr_i, opt_s, opt_n, it_ok, it_ex, it_no, bnd_ok, nx_ok, nx_no, getS_0, getS_s, setS_0, setS_s, p_add, p_sub, p_neg, p_lt, p_le, p_gt, p_ge, p_isN, p_ntN, p_isi, p_lenL, p_lenT, p_tupL, p_tupT, p_lstL, p_lstT, p_ixT, p_ixL, p_rev, ev_ii, ev_ss, ev_st, ev_ts, ev_it, ev_ti, ev_is, ev_si, ev_ni, ixD_0, ixD_1, ixD_2, ixD_3, map_s, map_n, isi, isNone, chainR, fin_v, fin_o, fin_nx, fin_x, fin_i, it_seqT, it_seqL, p_eq, p_ne, p_mul, p_mod, p_fdiv, p_pow, mulOk, Bool.or_true, Bool.true_or, Bool.or_false, Bool.false_or, decide_true, decide_false, dok_i, dok_s, dok_n, dok_t1, dok_t2, dok_t3, ev_tt, ev_ll, ev_nn, ev_cc, ev_nc, ev_cn, bindT, bindU, bindL, List.length_cons, List.length_nil, List.map_cons, List.map_nil, List.cons_append, List.nil_append, List.replicate, List.isEmpty_cons, List.isEmpty_nil, Bool.not_true, Bool.not_false, if_true, if_false, ite_true, ite_false, Bool.false_eq_true, reduceIte, Nat.sub_self, Nat.reduceAdd, Nat.reduceSub, Int.reduceEq, Int.reduceBEq, bne_self_eq_false, Bool.true_and, Bool.false_and, Bool.and_false, Bool.and_true, beq_self_eq_true])
  | `(tactic| walk_at "ev*") => `(tactic| try simp (config := { decide := true, implicitDefEqProofs := false }) only [↓xs_nil, ↓xs_cons, ↓x_asg, ↓x_unp, ↓x_ifs, ↓x_for, ↓x_whl, ↓x_ret, ↓vi_eq, ↓x_pass, ↓x_brk, ↓x_exp, ↓x_raise, ↓x_raiseP, ↓x_try, ↓x_bad, ↓x_aug, ↓x_app, ↓x_ext, ↓x_inz, ↓x_six, ↓x_sixF, ↓x_augF, ↓x_augxF, ↓x_mk, ↓x_asgL, ↓x_sixL, ↓pe_eq, ↓v_var, ↓t_var, ↓v_con, ↓t_con, ↓v_glo, ↓t_glo, ↓t_tup, ↓t_lst, ↓t_pr, ↓t_chn, ↓t_slc, ↓t_call, ↓t_comp, ↓t_isx, ↓t_fld, ↓t_inD, ↓t_getD, ↓t_keysS, ↓t_compX, ↓t_fldO, ↓t_ixF, ↓t_mth, ↓t_mthN, ↓t_newm, ↓t_callK, ↓t_callD, ↓t_ixL, ↓t_mthL, ↓v_tup, ↓v_lst, ↓v_pr, ↓vs_nil, ↓ps_nil, ↓vs_cons, ↓ps_cons, ↓ts_nil, ↓ts_cons, ↓os_nil, ↓os_cons, ↓v_and, ↓t_and, ↓v_or, ↓t_or, ↓v_not, ↓t_not, ↓v_ite, ↓t_ite, ↓v_chn, ↓c_nil, ↓c_cons, ↓v_slc, ↓v_call, ↓v_callK, ↓v_callD, ↓v_comp, ↓v_compX, ↓v_isx, ↓v_fld, ↓v_inD, ↓v_getD, ↓v_keysS, ↓v_fldO, ↓v_ixF, ↓v_mth, ↓v_mthN, ↓v_newm, ↓v_ixL, ↓v_mthL, ↓xs_disp, ↓xh_nil, ↓xh_cons, ↓run_F, sqR_nx, sqR_rt, sqR_bk, sqR_ct, sqR_ex, sqR_no, sqR_if, asgR_ok, asgR_ex, asgR_no, asgR_if, unpB_s, unpB_n, unpR_ex, unpR_no, unpR_if, unpR_ok, ifR_ok, ifR_ex, ifR_no, ifR_if, forR_ok, forR_ex, forR_no, forR_if, rtR_ok, rtR_ex, rtR_no, rtR_if, retV_o, retV_v, retV_x, retV_b, retV_l, retV_n, retE_s, retE_n, expR_ok, expR_ex, expR_no, expR_if, rsR_ok, rsR_ex, rsR_no, rsR_if, tryH_ok, tryH_ex, tryH_no, tryH_if, pkV_v, pkV_o, pkV_x, pkV_b, pkV_l, pkV_n, pkE_s, pkE_n, varR_o, varR_v, varR_x, varR_b, varR_l, varR_n, vtR_o, vtR_v, vtR_x, vtR_b, vtR_l, vtR_n, tuR_ok, tuR_ex, tuR_no, tuR_if, lsR_ok, lsR_ex, lsR_no, lsR_if, prR_ok, prR_ex, prR_no, prR_if, vdR_ok, vdR_ex, vdR_no, vdR_if, vcR_ok, vcR_ex, vcR_no, vcR_if, pcR_ok, pcR_ex, pcR_no, pcR_if, anV_ok, anV_ex, anV_no, anV_if, orV_ok, orV_ex, orV_no, orV_if, anT_ok, anT_ex, anT_no, anT_if, orT_ok, orT_ex, orT_no, orT_if, noV_ok, noV_ex, noV_no, noV_if, noT_ok, noT_ex, noT_no, noT_if, iteV_ok, iteV_ex, iteV_no, iteV_if, iteT_ok, iteT_ex, iteT_no, iteT_if, chnR_ok, chnR_ex, chnR_no, chnR_if, chB_ok, chB_ex, chB_no, slC_ok, slC_ex, slC_no, slC_if, slB_ok, slB_ex, slB_no, slB_if, slR_ok, slR_ex, slR_no, slR_if, ccR_l, ccR_r, ccR_n, caR_ok, caR_ex, caR_no, caR_if, cdR_ok, cdR_ex, cdR_no, cdR_if, cmR_ok, cmR_ex, cmR_no, cmR_if, cxR_ok, cxR_ex, cxR_no, cxR_if, hcR_n, hcR_s, retOwn, peekR, denTs, denTs, Rs.bind_ok, Rs.bind_ex, Rs.bind_no, Rs.bind_ite, frz_v, frz_o, frz_x, frz_n, frz_i, tr_non, tr_bl, tr_int, tr_lst, tr_tup, tr_x, tr_n, tr_i, opt_s, opt_n, it_ok, it_ex, it_no, bnd_ok, nx_ok, nx_no, getS_0, getS_s, setS_0, setS_s, p_add, p_sub, p_neg, p_lt, p_le, p_gt, p_ge, p_isN, p_ntN, p_isi, p_lenL, p_lenT, p_tupL, p_tupT, p_lstL, p_lstT, p_ixT, p_ixL, p_rev, ev_ii, ev_ss, ev_st, ev_ts, ev_it, ev_ti, ev_is, ev_si, ev_ni, ixD_0, ixD_1, ixD_2, ixD_3, map_s, map_n, isi, isNone, chainR, fin_v, fin_o, fin_nx, fin_x, fin_i, it_seqT, it_seqL, p_eq, p_ne, p_mul, p_mod, p_fdiv, p_pow, mulOk, Bool.or_true, Bool.true_or, Bool.or_false, Bool.false_or, decide_true, decide_false, dok_i, dok_s, dok_n, dok_t1, dok_t2, dok_t3, ev_tt, ev_ll, ev_nn, ev_cc, ev_nc, ev_cn, bindT, bindU, bindL, List.length_cons, List.length_nil, List.map_cons, List.map_nil, List.cons_append, List.nil_append, List.replicate, List.isEmpty_cons, List.isEmpty_nil, Bool.not_true, Bool.not_false, if_true, if_false, ite_true, ite_false, Bool.false_eq_true, reduceIte, Nat.sub_self, Nat.reduceAdd, Nat.reduceSub, Int.reduceEq, Int.reduceBEq, bne_self_eq_false, Bool.true_and, Bool.false_and, Bool.and_false, Bool.and_true, beq_self_eq_true, *])
theorem cast1 {l : Nat} : ((l + 1 : Nat) : Int) - 1 = (l : Int) := by omega
noncomputable def poD : Option (Nat × Nat) → D
  | none => .none
  | some (m, l) => .tuple [.int m, .int l]
structure HTm (tab : Nat → Option Fn) : Prop where
  is_within : tab F_is_within = some f_is_within
  places_of : tab F_places_of = some f_places_of
  places_put : tab F_places_put = some f_places_put
  places_round : tab F_places_round = some f_places_round
  is_term : tab F_is_term = some f_is_term
  checked : tab F_checked = some f_checked
section
variable {tab : Nat → Option Fn} (h : HTm tab)
include h
theorem is_within_ok (n : Nat) (i lo hi : Int) : (callN tab (n + 1)).f F_is_within [.int i, .int lo, .int hi] = some (.inl (.val (.bool (decide (lo ≤ i) && decide (i ≤ hi))))) := by
  rw [call_eq h.is_within, f_is_within]
  walk_at "ev"
  by_cases a : lo ≤ i <;> simp [a, fin_v]
omit h in
theorem put_step0 {n l : Nat} {g : D} {th o m : W} {x4 x5 : Option W} (rg : (callN tab n).f F_places_of [g, .int l] = some (.inl (.val (poD none)))) :
    exSs (callN tab n) b_places_put_0 (setS ⟨[some th, some (.val (.int l)), some o, some m, x4, x5]⟩ 4 (some (.val g))) = .ok (.rt (.val .none)) ⟨[some th, some (.val (.int l)), some o, some m, some (.val g), some (.val .none)]⟩ := by
  unfold b_places_put_0
  simp only [poD] at rg
  walk_at "ev*"
omit h in
theorem put_step1 {n l k l' : Nat} {g : D} {th o : W} {x4 x5 : Option W} (rg : (callN tab n).f F_places_of [g, .int l] = some (.inl (.val (poD (some (k, l')))))) :
    exSs (callN tab n) b_places_put_0 (setS ⟨[some th, some (.val (.int l)), some o, some (.val .none), x4, x5]⟩ 4 (some (.val g))) = .ok .nx ⟨[some th, some (.val (.int l')), some o, some (.val (.int k)), some (.val g), some (.val (poD (some (k, l'))))]⟩ := by
  unfold b_places_put_0
  simp only [poD] at rg ⊢
  walk_at "ev*"
omit h in
theorem put_step2 {n l k l' j : Nat} {g : D} {th o : W} {x4 x5 : Option W} (rg : (callN tab n).f F_places_of [g, .int l] = some (.inl (.val (poD (some (k, l')))))) :
    exSs (callN tab n) b_places_put_0 (setS ⟨[some th, some (.val (.int l)), some o, some (.val (.int j)), x4, x5]⟩ 4 (some (.val g))) =
      if (!((k : Nat) : Int) == ((j : Nat) : Int)) = true then .ok (.rt (.val .none)) ⟨[some th, some (.val (.int l)), some o, some (.val (.int j)), some (.val g), some (.val (poD (some (k, l'))))]⟩
      else .ok .nx ⟨[some th, some (.val (.int l')), some o, some (.val (.int k)), some (.val g), some (.val (poD (some (k, l'))))]⟩ := by
  unfold b_places_put_0
  simp only [poD] at rg ⊢
  walk_at "ev*"
omit h in
theorem po_lt {t : Tm} {l k l' : Nat} (e : t.po l = some (k, l')) : l' < l := by
  rw [Tm.po_eq] at e
  unfold fitO at e
  split at e
  · split at e
    · cases e
      have := t.sz_pos
      omega
    · cases e
  · cases e
mutual
theorem po_ok : ∀ (t : Tm) (l n : Nat), 2 * min t.dep (l + 1) ≤ n → (callN tab n).f F_places_of [t.d, .int l] = some (.inl (.val (poD (t.po l))))
  | .nought m, l, 0, hn => by simp [Tm.dep] at hn
  | .nought m, l, 1, hn => by simp [Tm.dep] at hn
  | .nought m, l, n + 2, hn => by
    have w := is_within_ok h
    rw [call_eq h.places_of, f_places_of]
    simp only [Tm.d, g_MOST_PLACES]
    clear hn
    walk_at "ev*"
    cases l with
    | zero => simp [Tm.po, poD]
    | succ l =>
      by_cases hm : m ≤ 4
      · have : (m : Int) ≤ 4 := by omega
        simp [Tm.po, poD, hm, this, cast1]; omega
      · have : ¬ (m : Int) ≤ 4 := by omega
        simp [Tm.po, poD, hm, this]
  | .next, l, 0, hn => by simp [Tm.dep] at hn
  | .next, l, n + 1, hn => by
    rw [call_eq h.places_of, f_places_of]
    simp only [Tm.d]
    walk_at "ev"
    cases l with
    | zero => simp [Tm.po, poD]
    | succ l => simp [Tm.po, poD, cast1]; omega
  | .place m i, l, 0, hn => by simp [Tm.dep] at hn
  | .place m i, l, 1, hn => by simp [Tm.dep] at hn
  | .place m i, l, n + 2, hn => by
    have w := is_within_ok h
    rw [call_eq h.places_of, f_places_of]
    simp only [Tm.d, g_MOST_PLACES]
    clear hn
    walk_at "ev*"
    cases l with
    | zero => simp [Tm.po, poD]
    | succ l =>
      have z : ¬ (((l + 1 : Nat) : Int) == 0) = true := by simp; omega
      rw [if_neg z, cast1]
      simp only [Tm.po]
      by_cases hm : 1 ≤ m ∧ m ≤ 4 ∧ i < m
      · have h1 : (1 : Int) ≤ m := by omega
        have h2 : (m : Int) ≤ 4 := by omega
        have h3 : (i : Int) ≤ m - 1 := by omega
        simp [poD, hm, h1, h2, h3]
      · rw [if_neg hm]
        by_cases h1 : (1 : Int) ≤ m ∧ (m : Int) ≤ 4
        · have h3 : ¬ (i : Int) ≤ m - 1 := by omega
          simp [poD, h1, h3]
        · have h4 : ¬ (decide ((1 : Int) ≤ m) && decide ((m : Int) ≤ 4)) = true := by simpa using h1
          simp only [h4, if_false, poD]
          rfl
  | .put f gs, l, 0, hn => by simp only [Tm.dep] at hn; omega
  | .put f gs, l, 1, hn => by simp only [Tm.dep] at hn; omega
  | .put f gs, l, n + 2, hn => by
    simp only [Tm.dep] at hn
    rw [call_eq h.places_of, f_places_of]
    simp only [Tm.d]
    cases l with
    | zero =>
      walk_at "ev"
      simp [Tm.po, poD]
    | succ l =>
      have z : (((l + 1 : Nat) : Int) == 0) = false := by simp; omega
      have rf := po_ok f l n (by omega)
      have pp : (callN tab (n + 1)).f F_places_put [.tuple [.str zU, f.d, .tuple (Tm.ds gs)], .int ((l + 1 : Nat) - 1 : Int)] = some (.inl (.val (poD ((Tm.put f gs).po (l + 1))))) := by
        rw [call_eq h.places_put, f_places_put, cast1]
        simp only [Tm.po]
        cases ef : f.po l with
        | none =>
          rw [ef] at rf
          simp only [poD] at rf
          walk_at "ev*"
          rfl
        | some kl =>
          obtain ⟨k, l'⟩ := kl
          rw [ef] at rf
          simp only [poD] at rf
          walk_at "ev*"
          rw [Tm.ds_len]
          by_cases hk0 : k = 0
          · subst hk0
            simp [poD]
          · have e0 : ¬ (((k : Nat) : Int) == 0) = true := by simp; omega
            rw [if_neg e0]
            by_cases hk : k = gs.length
            · have e1 : ¬ ((!((k : Nat) : Int) == ((gs.length : Nat) : Int)) = true) := by simp [hk]
              rw [if_neg e1, if_pos ⟨hk0, hk⟩]
              rcases put_loop gs none l' n (W.val (PyData.tuple [PyData.str zU, f.d, PyData.tuple (Tm.ds gs)])) (W.val (PyData.tuple [PyData.int ↑k, PyData.int ↑l'])) none none (by have := po_lt ef; omega) with ⟨c', e2, e3⟩ | ⟨m', l2, y4, y5, e2, e3, e4⟩
              · simp only [Option.elim] at e2
                rw [e2, e3]
                rfl
              · simp only [Option.elim] at e2
                rw [e2, e3]
                cases m' with
                | none =>
                  exfalso
                  cases gs with
                  | nil => simp at hk; exact hk0 hk
                  | cons g gs => exact absurd (e4 rfl).2 (by simp)
                | some m => rfl
            · have e1 : (!((k : Nat) : Int) == ((gs.length : Nat) : Int)) = true := by simp; omega
              rw [if_pos e1, if_neg (fun z => hk z.2)]
              rfl
      clear rf
      walk_at "ev*"
  | .round a b, l, 0, hn => by simp only [Tm.dep] at hn; omega
  | .round a b, l, 1, hn => by simp only [Tm.dep] at hn; omega
  | .round a b, l, n + 2, hn => by
    simp only [Tm.dep] at hn
    rw [call_eq h.places_of, f_places_of]
    simp only [Tm.d]
    cases l with
    | zero =>
      walk_at "ev"
      simp [Tm.po, poD]
    | succ l =>
      have z : (((l + 1 : Nat) : Int) == 0) = false := by simp; omega
      have pp : (callN tab (n + 1)).f F_places_round [.tuple [.str zR, a.d, b.d], .int ((l + 1 : Nat) - 1 : Int)] = some (.inl (.val (poD ((Tm.round a b).po (l + 1))))) := by
        rw [call_eq h.places_round, f_places_round, cast1]
        simp only [Tm.po]
        have ra := po_ok a l n (by omega)
        cases ea : a.po l with
        | none =>
          rw [ea] at ra
          simp only [poD] at ra
          walk_at "ev*"
          rfl
        | some kl =>
          obtain ⟨x, l'⟩ := kl
          rw [ea] at ra
          have rb := po_ok b l' n (by have := po_lt ea; omega)
          simp only [poD, g_MOST_PLACES] at ra ⊢
          cases eb : b.po l' with
          | none =>
            rw [eb] at rb
            simp only [poD] at rb
            walk_at "ev*"
            by_cases hx : x < 4
            · have : ¬ (4 : Int) ≤ x := by omega
              simp [hx, this]
            · have : (4 : Int) ≤ x := by omega
              simp [hx, this]
          | some yl =>
            obtain ⟨y, l2⟩ := yl
            rw [eb] at rb
            simp only [poD] at rb
            walk_at "ev*"
            by_cases hx : x < 4
            · have h1 : ¬ (4 : Int) ≤ x := by omega
              by_cases hy : y = x + 2
              · have h2 : (y : Int) = x + 2 := by omega
                simp [hx, h1, hy]
              · have h2 : ¬ (y : Int) = x + 2 := by omega
                simp [hx, h1, hy, h2]
            · have : (4 : Int) ≤ x := by omega
              simp [hx, this]
      walk_at "ev*"
/-- the loop over inner ones -/
theorem put_loop : ∀ (gs : List Tm) (m : Option Nat) (l n : Nat) (th o : W) (x4 x5 : Option W), 2 * min (Tm.deps gs) (l + 1) ≤ n →
    (∃ c', forL [4] (exSs (callN tab n) b_places_put_0) (Tm.ds gs) ⟨[some th, some (.val (.int l)), some o, some (.val (m.elim .none fun m => .int (m : Nat))), x4, x5]⟩ = .ok (.rt (.val .none)) c' ∧ Tm.pos m gs l = none) ∨
    (∃ m' l' y4 y5, forL [4] (exSs (callN tab n) b_places_put_0) (Tm.ds gs) ⟨[some th, some (.val (.int l)), some o, some (.val (m.elim .none fun m => .int (m : Nat))), x4, x5]⟩ = .ok .nx ⟨[some th, some (.val (.int (l' : Nat))), some o, some (.val (m'.elim .none fun m => .int (m : Nat))), y4, y5]⟩ ∧ (Tm.pos m gs l = (m' : Option Nat).map fun m => (m, l')) ∧ (m' = none → m = none ∧ gs = []))
  | [], m, l, n, th, o, x4, x5, hn => .inr ⟨m, l, x4, x5, rfl, by simp only [Tm.pos], fun e => ⟨e, rfl⟩⟩
  | g :: gs, m, l, n, th, o, x4, x5, hn => by
    simp only [Tm.deps] at hn
    have rg := po_ok g l n (by omega)
    have ih := put_loop gs
    simp only [Tm.ds, for_cons, Tm.pos]
    cases eg : g.po l with
    | none =>
      rw [eg] at rg
      rw [put_step0 rg]
      exact .inl ⟨_, rfl, rfl⟩
    | some kl =>
      obtain ⟨k, l'⟩ := kl
      rw [eg] at rg
      cases m with
      | none =>
        simp only [Option.elim]
        rw [put_step1 rg]
        rcases put_loop gs (some k) l' n th o (some (.val g.d)) (some (.val (poD (some (k, l'))))) (by have := po_lt eg; omega) with ⟨c', e2, e3⟩ | ⟨m', l2, y4, y5, e2, e3, e4⟩
        · exact .inl ⟨c', e2, e3⟩
        · exact .inr ⟨m', l2, y4, y5, e2, e3, fun e => by cases (e4 e).1⟩
      | some j =>
        simp only [Option.elim]
        rw [put_step2 rg]
        by_cases hk : k = j
        · subst hk
          have ek : ¬ (!((k : Nat) : Int) == ((k : Nat) : Int)) = true := by simp
          rw [if_neg ek, if_pos rfl]
          rcases put_loop gs (some k) l' n th o (some (.val g.d)) (some (.val (poD (some (k, l'))))) (by have := po_lt eg; omega) with ⟨c', e2, e3⟩ | ⟨m', l2, y4, y5, e2, e3, e4⟩
          · exact .inl ⟨c', e2, e3⟩
          · exact .inr ⟨m', l2, y4, y5, e2, e3, fun e => by cases (e4 e).1⟩
        · have ek : (!((k : Nat) : Int) == ((j : Nat) : Int)) = true := by simp; omega
          rw [if_pos ek, if_neg hk]
          exact .inl ⟨_, rfl, rfl⟩
end
/-- a function of at most 60 parts, of so many places -/
structure Fit (t : Tm) (m : Nat) : Prop where
  ar : t.ar = some m
  sz : t.sz ≤ 60
omit h in
theorem Fit.po {t : Tm} {m : Nat} (g : Fit t m) : t.po 60 = some (m, 60 - t.sz) := by
  rw [Tm.po_eq, g.ar]
  simp only [fitO]
  rw [if_pos g.sz]
noncomputable def Tm.isT (t : Tm) : Bool := t.ar.isSome && decide (t.sz ≤ 60)
omit h in
theorem isT_po (t : Tm) : (t.po 60).isSome = t.isT := by
  rw [Tm.po_eq]
  unfold fitO Tm.isT
  cases t.ar with
  | none => rfl
  | some m =>
    dsimp only
    by_cases hs : t.sz ≤ 60 <;> simp [hs]
theorem is_term_ok (t : Tm) (n : Nat) (hn : 2 * min t.dep 61 + 1 ≤ n) : (callN tab n).f F_is_term [t.d] = some (.inl (.val (.bool t.isT))) := by
  obtain ⟨n, rfl⟩ : ∃ k, n = k + 1 := ⟨n - 1, by omega⟩
  rw [call_eq h.is_term, f_is_term]
  have e := po_ok h t 60 n (by omega)
  rw [← isT_po]
  cases eo : t.po 60 with
  | none =>
    rw [eo] at e
    simp only [poD] at e
    have e : (callN tab n).f F_places_of [t.d, .int 60] = some (.inl (.val .none)) := e
    simp only [g_MOST_PARTS]
    walk_at "ev*"
    rfl
  | some kl =>
    obtain ⟨k, l⟩ := kl
    rw [eo] at e
    simp only [poD] at e
    have e : (callN tab n).f F_places_of [t.d, .int 60] = some (.inl (.val (.tuple [.int k, .int l]))) := e
    simp only [g_MOST_PARTS]
    walk_at "ev*"
    rfl
theorem checked_ok (t : Tm) (n : Nat) (hn : 2 * min t.dep 61 + 2 ≤ n) : (callN tab n).f F_checked [t.d] = if t.isT then some (.inl (.val t.d)) else some (.inr ⟨.BadTerm, none⟩) := by
  obtain ⟨n, rfl⟩ : ∃ k, n = k + 1 := ⟨n - 1, by omega⟩
  rw [call_eq h.checked, f_checked]
  have e := is_term_ok h t n (by omega)
  walk_at "ev*"
  cases t.isT <;> rfl
omit h in
theorem Fit.isT {t : Tm} {m : Nat} (g : Fit t m) : t.isT = true := by
  unfold Tm.isT
  rw [g.ar, decide_eq_true g.sz]
  rfl
theorem checked_good {t : Tm} {m : Nat} (g : Fit t m) (n : Nat) (hn : 2 * t.dep + 2 ≤ n) : (callN tab n).f F_checked [t.d] = some (.inl (.val t.d)) := by
  rw [checked_ok h t n (by omega), if_pos g.isT]
theorem arity_good (har : tab F_arity = some f_arity) {t : Tm} {m : Nat} (g : Fit t m) (n : Nat) (hn : 2 * t.dep + 3 ≤ n) : (callN tab n).f F_arity [t.d] = some (.inl (.val (.int m))) := by
  obtain ⟨n, rfl⟩ : ∃ k, n = k + 1 := ⟨n - 1, by omega⟩
  rw [call_eq har, f_arity]
  have e := checked_good h g n (by omega)
  have e2 : (callN tab n).f F_places_of [t.d, .int 60] = _ := po_ok h t 60 n (by omega)
  rw [g.po] at e2
  simp only [poD] at e2
  simp only [g_MOST_PARTS]
  clear hn
  walk_at "ev*"
end


/-! Sp2: what is drawn of a script. -/
local macro_rules
  | `(tactic| walk_at "evn") => `(tactic| try simp (config := { decide := true, implicitDefEqProofs := false }) only [↓xs_nil, ↓xs_cons, ↓x_asg, ↓x_unp, ↓x_ifs, ↓x_for, ↓x_whl, ↓x_ret, ↓vi_eq, ↓x_pass, ↓x_brk, ↓x_exp, ↓x_raise, ↓x_raiseP, ↓x_try, ↓x_bad, ↓x_aug, ↓x_app, ↓x_ext, ↓x_inz, ↓x_six, ↓x_sixF, ↓x_augF, ↓x_augxF, ↓x_mk, ↓x_asgL, ↓x_sixL, ↓pe_eq, ↓v_var, ↓t_var, ↓v_con, ↓t_con, ↓v_glo, ↓t_glo, ↓t_tup, ↓t_lst, ↓t_pr, ↓t_chn, ↓t_slc, ↓t_call, ↓t_comp, ↓t_isx, ↓t_fld, ↓t_inD, ↓t_getD, ↓t_keysS, ↓t_compX, ↓t_fldO, ↓t_ixF, ↓t_mth, ↓t_mthN, ↓t_newm, ↓t_callK, ↓t_callD, ↓t_ixL, ↓t_mthL, ↓v_tup, ↓v_lst, ↓v_pr, ↓vs_nil, ↓ps_nil, ↓vs_cons, ↓ps_cons, ↓ts_nil, ↓ts_cons, ↓os_nil, ↓os_cons, ↓v_and, ↓t_and, ↓v_or, ↓t_or, ↓v_not, ↓t_not, ↓v_ite, ↓t_ite, ↓v_chn, ↓c_nil, ↓c_cons, ↓v_slc, ↓v_call, ↓v_callK, ↓v_callD, ↓v_comp, ↓v_compX, ↓v_isx, ↓v_fld, ↓v_inD, ↓v_getD, ↓v_keysS, ↓v_fldO, ↓v_ixF, ↓v_mth, ↓v_mthN, ↓v_newm, ↓v_ixL, ↓v_mthL, ↓xs_disp, ↓xh_nil, ↓xh_cons, ↓run_F, sqR_nx, sqR_rt, sqR_bk, sqR_ct, sqR_ex, sqR_no, sqR_if, asgR_ok, asgR_ex, asgR_no, asgR_if, unpB_s, unpB_n, unpR_ex, unpR_no, unpR_if, unpR_ok, ifR_ok, ifR_ex, ifR_no, ifR_if, forR_ok, forR_ex, forR_no, forR_if, rtR_ok, rtR_ex, rtR_no, rtR_if, retV_o, retV_v, retV_x, retV_b, retV_l, retV_n, retE_s, retE_n, expR_ok, expR_ex, expR_no, expR_if, rsR_ok, rsR_ex, rsR_no, rsR_if, tryH_ok, tryH_ex, tryH_no, tryH_if, pkV_v, pkV_o, pkV_x, pkV_b, pkV_l, pkV_n, pkE_s, pkE_n, varR_o, varR_v, varR_x, varR_b, varR_l, varR_n, vtR_o, vtR_v, vtR_x, vtR_b, vtR_l, vtR_n, tuR_ok, tuR_ex, tuR_no, tuR_if, lsR_ok, lsR_ex, lsR_no, lsR_if, prR_ok, prR_ex, prR_no, prR_if, vdR_ok, vdR_ex, vdR_no, vdR_if, vcR_ok, vcR_ex, vcR_no, vcR_if, pcR_ok, pcR_ex, pcR_no, pcR_if, anV_ok, anV_ex, anV_no, anV_if, orV_ok, orV_ex, orV_no, orV_if, anT_ok, anT_ex, anT_no, anT_if, orT_ok, orT_ex, orT_no, orT_if, noV_ok, noV_ex, noV_no, noV_if, noT_ok, noT_ex, noT_no, noT_if, iteV_ok, iteV_ex, iteV_no, iteV_if, iteT_ok, iteT_ex, iteT_no, iteT_if, chnR_ok, chnR_ex, chnR_no, chnR_if, chB_ok, chB_ex, chB_no, slC_ok, slC_ex, slC_no, slC_if, slB_ok, slB_ex, slB_no, slB_if, slR_ok, slR_ex, slR_no, slR_if, ccR_l, ccR_r, ccR_n, caR_ok, caR_ex, caR_no, caR_if, cdR_ok, cdR_ex, cdR_no, cdR_if, cmR_ok, cmR_ex, cmR_no, cmR_if, cxR_ok, cxR_ex, cxR_no, cxR_if, hcR_n, hcR_s, retOwn, peekR, denTs, denTs, Rs.bind_ok, Rs.bind_ex, Rs.bind_no, Rs.bind_ite, frz_v, frz_o, frz_x, frz_n, frz_i, tr_non, tr_bl, tr_int, tr_lst, tr_tup, tr_x, tr_n, tr_i, opt_s, opt_n, it_ok, it_ex, it_no, bnd_ok, nx_ok, nx_no, getS_0, getS_s, setS_0, setS_s, p_add, p_sub, p_neg, p_lt, p_le, p_gt, p_ge, p_isN, p_ntN, p_isi, p_lenL, p_lenT, p_tupL, p_tupT, p_lstL, p_lstT, p_ixT, p_ixL, p_rev, ev_ii, ev_ss, ev_st, ev_ts, ev_it, ev_ti, ev_is, ev_si, ev_ni, ixD_0, ixD_1, ixD_2, ixD_3, map_s, map_n, isi, isNone, chainR, fin_v, fin_o, fin_nx, fin_x, fin_i, it_seqT, it_seqL, p_eq, p_ne, p_mul, p_mod, p_fdiv, p_pow, mulOk, Bool.or_true, Bool.true_or, Bool.or_false, Bool.false_or, decide_true, decide_false, dok_i, dok_s, dok_n, dok_t1, dok_t2, dok_t3, ev_tt, ev_ll, ev_nn, ev_cc, ev_nc, ev_cn, bindT, bindU, bindL, List.length_cons, List.length_nil, List.map_cons, List.map_nil, List.cons_append, List.nil_append, List.replicate, List.isEmpty_cons, List.isEmpty_nil, Bool.not_true, Bool.not_false, if_true, if_false, ite_true, ite_false, Bool.false_eq_true, reduceIte, Nat.sub_self, Nat.reduceAdd, Nat.reduceSub, Int.reduceEq, Int.reduceBEq, bne_self_eq_false, Bool.true_and, Bool.false_and, Bool.and_false, Bool.and_true, beq_self_eq_true, nc_add, nc_addl, nc_ladd, nc_mul, nc_mull, nc_lmul, nc_mod, nc_modl, nc_div, nc_divl, nc_sub1, nc_beq, nc_beql, nc_lbeq, nc_lt, nc_ltl, nc_llt, nc_le, nc_lel, nc_lle, nc_ltp, nc_ltlp, nc_lltp, decide_eq_true_eq, Bool.and_eq_true, Bool.or_eq_true, Bool.not_eq_true', decide_eq_false_iff_not, Nat.zero_lt_succ, Nat.add_one_ne_zero, Int.reduceDiv, Int.reduceMod, Int.reduceLT, Int.reduceLE, Int.reduceAdd, Int.reduceSub, Int.reduceMul, Int.reduceNeg, Nat.reduceMod, Nat.reduceDiv, Nat.reduceLT, or_true, true_or, or_false, false_or, and_true, true_and, and_false, false_and])
  | `(tactic| walk_at "evn*") => `(tactic| try simp (config := { decide := true, implicitDefEqProofs := false }) only [↓xs_nil, ↓xs_cons, ↓x_asg, ↓x_unp, ↓x_ifs, ↓x_for, ↓x_whl, ↓x_ret, ↓vi_eq, ↓x_pass, ↓x_brk, ↓x_exp, ↓x_raise, ↓x_raiseP, ↓x_try, ↓x_bad, ↓x_aug, ↓x_app, ↓x_ext, ↓x_inz, ↓x_six, ↓x_sixF, ↓x_augF, ↓x_augxF, ↓x_mk, ↓x_asgL, ↓x_sixL, ↓pe_eq, ↓v_var, ↓t_var, ↓v_con, ↓t_con, ↓v_glo, ↓t_glo, ↓t_tup, ↓t_lst, ↓t_pr, ↓t_chn, ↓t_slc, ↓t_call, ↓t_comp, ↓t_isx, ↓t_fld, ↓t_inD, ↓t_getD, ↓t_keysS, ↓t_compX, ↓t_fldO, ↓t_ixF, ↓t_mth, ↓t_mthN, ↓t_newm, ↓t_callK, ↓t_callD, ↓t_ixL, ↓t_mthL, ↓v_tup, ↓v_lst, ↓v_pr, ↓vs_nil, ↓ps_nil, ↓vs_cons, ↓ps_cons, ↓ts_nil, ↓ts_cons, ↓os_nil, ↓os_cons, ↓v_and, ↓t_and, ↓v_or, ↓t_or, ↓v_not, ↓t_not, ↓v_ite, ↓t_ite, ↓v_chn, ↓c_nil, ↓c_cons, ↓v_slc, ↓v_call, ↓v_callK, ↓v_callD, ↓v_comp, ↓v_compX, ↓v_isx, ↓v_fld, ↓v_inD, ↓v_getD, ↓v_keysS, ↓v_fldO, ↓v_ixF, ↓v_mth, ↓v_mthN, ↓v_newm, ↓v_ixL, ↓v_mthL, ↓xs_disp, ↓xh_nil, ↓xh_cons, ↓run_F, sqR_nx, sqR_rt, sqR_bk, sqR_ct, sqR_ex, sqR_no, sqR_if, asgR_ok, asgR_ex, asgR_no, asgR_if, unpB_s, unpB_n, unpR_ex, unpR_no, unpR_if, unpR_ok, ifR_ok, ifR_ex, ifR_no, ifR_if, forR_ok, forR_ex, forR_no, forR_if, rtR_ok, rtR_ex, rtR_no, rtR_if, retV_o, retV_v, retV_x, retV_b, retV_l, retV_n, retE_s, retE_n, expR_ok, expR_ex, expR_no, expR_if, rsR_ok, rsR_ex, rsR_no, rsR_if, tryH_ok, tryH_ex, tryH_no, tryH_if, pkV_v, pkV_o, pkV_x, pkV_b, pkV_l, pkV_n, pkE_s, pkE_n, varR_o, varR_v, varR_x, varR_b, varR_l, varR_n, vtR_o, vtR_v, vtR_x, vtR_b, vtR_l, vtR_n, tuR_ok, tuR_ex, tuR_no, tuR_if, lsR_ok, lsR_ex, lsR_no, lsR_if, prR_ok, prR_ex, prR_no, prR_if, vdR_ok, vdR_ex, vdR_no, vdR_if, vcR_ok, vcR_ex, vcR_no, vcR_if, pcR_ok, pcR_ex, pcR_no, pcR_if, anV_ok, anV_ex, anV_no, anV_if, orV_ok, orV_ex, orV_no, orV_if, anT_ok, anT_ex, anT_no, anT_if, orT_ok, orT_ex, orT_no, orT_if, noV_ok, noV_ex, noV_no, noV_if, noT_ok, noT_ex, noT_no, noT_if, iteV_ok, iteV_ex, iteV_no, iteV_if, iteT_ok, iteT_ex, iteT_no, iteT_if, chnR_ok, chnR_ex, chnR_no, chnR_if, chB_ok, chB_ex, chB_no, slC_ok, slC_ex, slC_no, slC_if, slB_ok, slB_ex, slB_no, slB_if, slR_ok, slR_ex, slR_no, slR_if, ccR_l, ccR_r, ccR_n, caR_ok, caR_ex, caR_no, caR_if, cdR_ok, cdR_ex, cdR_no, cdR_if, cmR_ok, cmR_ex, cmR_no, cmR_if, cxR_ok, cxR_ex, cxR_no, cxR_if, hcR_n, hcR_s, retOwn, peekR, denTs, denTs, Rs.bind_ok, Rs.bind_ex, Rs.bind_no, Rs.bind_ite, frz_v, frz_o, frz_x, frz_n, frz_i, tr_non, tr_bl, tr_int, tr_lst, tr_tup, tr_x, tr_n, tr_i, opt_s, opt_n, it_ok, it_ex, it_no, bnd_ok, nx_ok, nx_no, getS_0, getS_s, setS_0, setS_s, p_add, p_sub, p_neg, p_lt, p_le, p_gt, p_ge, p_isN, p_ntN, p_isi, p_lenL, p_lenT, p_tupL, p_tupT, p_lstL, p_lstT, p_ixT, p_ixL, p_rev, ev_ii, ev_ss, ev_st, ev_ts, ev_it, ev_ti, ev_is, ev_si, ev_ni, ixD_0, ixD_1, ixD_2, ixD_3, map_s, map_n, isi, isNone, chainR, fin_v, fin_o, fin_nx, fin_x, fin_i, it_seqT, it_seqL, p_eq, p_ne, p_mul, p_mod, p_fdiv, p_pow, mulOk, Bool.or_true, Bool.true_or, Bool.or_false, Bool.false_or, decide_true, decide_false, dok_i, dok_s, dok_n, dok_t1, dok_t2, dok_t3, ev_tt, ev_ll, ev_nn, ev_cc, ev_nc, ev_cn, bindT, bindU, bindL, List.length_cons, List.length_nil, List.map_cons, List.map_nil, List.cons_append, List.nil_append, List.replicate, List.isEmpty_cons, List.isEmpty_nil, Bool.not_true, Bool.not_false, if_true, if_false, ite_true, ite_false, Bool.false_eq_true, reduceIte, Nat.sub_self, Nat.reduceAdd, Nat.reduceSub, Int.reduceEq, Int.reduceBEq, bne_self_eq_false, Bool.true_and, Bool.false_and, Bool.and_false, Bool.and_true, beq_self_eq_true, nc_add, nc_addl, nc_ladd, nc_mul, nc_mull, nc_lmul, nc_mod, nc_modl, nc_div, nc_divl, nc_sub1, nc_beq, nc_beql, nc_lbeq, nc_lt, nc_ltl, nc_llt, nc_le, nc_lel, nc_lle, nc_ltp, nc_ltlp, nc_lltp, decide_eq_true_eq, Bool.and_eq_true, Bool.or_eq_true, Bool.not_eq_true', decide_eq_false_iff_not, Nat.zero_lt_succ, Nat.add_one_ne_zero, Int.reduceDiv, Int.reduceMod, Int.reduceLT, Int.reduceLE, Int.reduceAdd, Int.reduceSub, Int.reduceMul, Int.reduceNeg, Nat.reduceMod, Nat.reduceDiv, Nat.reduceLT, or_true, true_or, or_false, false_or, and_true, true_and, and_false, false_and, *])
structure HRow (tab : Nat → Option Fn) : Prop where
  cell : tab F__law_cell = some f__law_cell
  row : tab F__law_row = some f__law_row
section
variable {tab : Nat → Option Fn} (h : HRow tab)
noncomputable abbrev iL (ns : List Int) : List D := ns.map PyData.int
theorem iL_get {ns : List Int} {k : Nat} : (iL ns)[k]? = (ns[k]?).map PyData.int := by simp [iL]
include h
noncomputable abbrev nL (r : List Nat) : List D := r.map fun x => PyData.int (x : Nat)
end

/-! ### functions that are drawn -/
structure HGr (tab : Nat → Option Fn) : Prop where
  leaf : tab F__law_leaf = some f__law_leaf
  grown : tab F__law_grown = some f__law_grown
noncomputable def lf (num many : Nat) : Tm := if many = 1 ∧ num % 3 = 2 then .next else if num / 3 % (many + 1) = many then .nought many else .place many (num / 3 % (many + 1))
noncomputable def grL (g : Nat → Tm × Nat) : Nat → Nat → List Tm × Nat
  | 0, s => ([], s)
  | w + 1, s => ((g s).1 :: (grL g w (g s).2).1, (grL g w (g s).2).2)
noncomputable def gr (row : List Nat) : Nat → Nat → Nat → Tm × Nat
  | 0, at_, many => (lf (row.getD at_ 0 / 10) many, at_ + 1)
  | d + 1, at_, many =>
    if row.getD at_ 0 % 10 < 2 ∨ 28 ≤ at_ then (lf (row.getD at_ 0 / 10) many, at_ + 1)
    else if row.getD at_ 0 % 10 < 6 ∧ 1 ≤ many ∧ many ≤ 3 then (.round (gr row d (at_ + 1) (many - 1)).1 (gr row d (gr row d (at_ + 1) (many - 1)).2 (many + 1)).1, (gr row d (gr row d (at_ + 1) (many - 1)).2 (many + 1)).2)
    else
      let wide := 1 + row.getD at_ 0 / 10 % 7 % 3
      let outer := if 1 < wide ∨ row.getD at_ 0 / 10 / 7 % 2 = 0 then gr row d (at_ + 1) wide else (.next, at_ + 1)
      let inner := grL (fun s => gr row d s many) wide outer.2
      (.put outer.1 inner.1, inner.2)
section
variable {tab : Nat → Option Fn} (h : HGr tab)
include h
omit h in
omit h in
omit h in
omit h in
end


/-! Gr: drawn functions are functions, and how large they are. -/
theorem ars_some {m : Nat} : ∀ (ts : List Tm), (∀ t ∈ ts, t.ar = some m) → Tm.ars (some m) ts = some m
  | [], _ => rfl
  | t :: ts, h => by
    simp only [Tm.ars, h t List.mem_cons_self, if_true]
    exact ars_some ts fun u hu => h u (List.mem_cons_of_mem _ hu)
theorem ars_all {m : Nat} {ts : List Tm} (hn : ts ≠ []) (h : ∀ t ∈ ts, t.ar = some m) : Tm.ars none ts = some m := by
  cases ts with
  | nil => exact absurd rfl hn
  | cons t ts =>
    simp only [Tm.ars, h t List.mem_cons_self]
    exact ars_some ts fun u hu => h u (List.mem_cons_of_mem _ hu)
theorem ars_inv {m : Nat} : ∀ {ts : List Tm} {o : Option Nat}, Tm.ars o ts = some m → (∀ t ∈ ts, t.ar = some m) ∧ (∀ k, o = some k → k = m)
  | [], o, h => ⟨by simp, fun k hk => by subst hk; simpa [Tm.ars] using h⟩
  | t :: ts, o, h => by
    simp only [Tm.ars] at h
    cases et : t.ar with
    | none => rw [et] at h; cases h
    | some k =>
      rw [et] at h
      cases o with
      | none =>
        obtain ⟨h1, h2⟩ := ars_inv h
        have := h2 k rfl
        subst this
        exact ⟨by simp [et]; exact h1, fun j hj => by cases hj⟩
      | some j =>
        dsimp only at h
        split at h
        · rename_i e
          obtain ⟨h1, h2⟩ := ars_inv h
          have := h2 k rfl
          subst this
          exact ⟨by simp [et]; exact h1, fun i hi => by cases hi; exact e.symm⟩
        · cases h
theorem put_ar {f : Tm} {gs : List Tm} {m : Nat} (hf : f.ar = some gs.length) (hn : gs ≠ []) (h : ∀ t ∈ gs, t.ar = some m) : (Tm.put f gs).ar = some m := by
  simp only [Tm.ar, hf]
  have h0 : gs.length ≠ 0 := by cases gs; exact absurd rfl hn; simp
  rw [if_pos ⟨h0, trivial⟩]
  exact ars_all hn h
theorem put_inv {f : Tm} {gs : List Tm} {m : Nat} (h : (Tm.put f gs).ar = some m) : f.ar = some gs.length ∧ gs ≠ [] ∧ ∀ t ∈ gs, t.ar = some m := by
  simp only [Tm.ar] at h
  split at h
  · rename_i k ek
    split at h
    · rename_i c
      rw [ek, c.2]
      exact ⟨rfl, by rintro rfl; exact c.1 c.2, (ars_inv h).1⟩
    · cases h
  · cases h
theorem round_ar {a b : Tm} {x : Nat} (ha : a.ar = some x) (hb : b.ar = some (x + 2)) (hx : x < 4) : (Tm.round a b).ar = some (x + 1) := by
  simp only [Tm.ar, ha, hb, if_pos hx, if_true]
theorem round_inv {a b : Tm} {m : Nat} (h : (Tm.round a b).ar = some m) : ∃ x, m = x + 1 ∧ a.ar = some x ∧ b.ar = some (x + 2) ∧ x < 4 := by
  simp only [Tm.ar] at h
  split at h
  · rename_i x ex
    split at h
    · rename_i c
      split at h
      · rename_i y ey
        split at h
        · rename_i e
          cases h
          exact ⟨x, rfl, ex, by rw [ey, e], c⟩
        · cases h
      · cases h
    · cases h
  · cases h
/-! ### sizes: which ends may come, how large at most -/
/-! Eq: functions told apart; comprehensions that make no trouble. -/
mutual
theorem eqv_tm : ∀ (s t : Tm), PyData.eqv s.d t.d = true ↔ s = t
  | .nought m, t => by cases t <;> simp [Tm.d, ev_tt, ev_cc, ev_nn, ev_ss, ev_ii, ev_nc, ev_cn] <;> omega
  | .next, t => by cases t <;> simp [Tm.d, ev_tt, ev_cc, ev_nn, ev_ss, ev_ii, ev_nc, ev_cn]
  | .place m i, t => by cases t <;> simp [Tm.d, ev_tt, ev_cc, ev_nn, ev_ss, ev_ii, ev_nc, ev_cn] <;> omega
  | .put f gs, t => by
    cases t with
    | put f' gs' =>
      have h1 := eqv_tm f f'
      have h2 := eqv_tms gs gs'
      simp [Tm.d, ev_tt, ev_cc, ev_nn, ev_ss, h1, h2]
    | _ => simp [Tm.d, ev_tt, ev_cc, ev_nn, ev_ss, ev_ii, ev_nc, ev_cn]
  | .round a b, t => by
    cases t with
    | round a' b' =>
      have h1 := eqv_tm a a'
      have h2 := eqv_tm b b'
      simp [Tm.d, ev_tt, ev_cc, ev_nn, ev_ss, h1, h2]
    | _ => simp [Tm.d, ev_tt, ev_cc, ev_nn, ev_ss, ev_ii, ev_nc, ev_cn]
theorem eqv_tms : ∀ (s t : List Tm), PyData.eqvAll (Tm.ds s) (Tm.ds t) = true ↔ s = t
  | [], t => by cases t <;> simp [Tm.ds, ev_nn, ev_nc]
  | g :: gs, t => by
    cases t with
    | nil => simp [Tm.ds, ev_cn]
    | cons g' gs' =>
      have h1 := eqv_tm g g'
      have h2 := eqv_tms gs gs'
      simp [Tm.ds, ev_cc, h1, h2]
end
noncomputable instance : DecidableEq Tm := fun s t => if h : PyData.eqv s.d t.d = true then isTrue ((eqv_tm s t).mp h) else isFalse fun e => h ((eqv_tm s t).mpr e)
theorem set_set {c : Cfg} {i : Nat} {a b : Option W} : setS (setS c i a) i b = setS c i b := by
  unfold setS
  simp [List.set_set]
theorem comp_cons {n : Nat} {cnd : Cfg → Rs Bool} {elt : Cfg → Rs D} {x : D} {xs : List D} {c : Cfg} : compL [n] cnd elt (x :: xs) c = (cnd (setS c n (some (.val x)))).bind fun t c2 => if t then (elt c2).bind fun d c3 => (compL [n] cnd elt xs c3).bind fun ds c4 => .ok (d :: ds) c4 else compL [n] cnd elt xs c2 := rfl
theorem comp_eq2 {α : Type} {k : Call} {me : Ex} {i : Nat} {a b : α → D} : ∀ {gs : List α} {c : Cfg}, (∀ x ∈ gs, frzR ((den k me).v (setS c i (some (.val (a x))))) = .ok (b x) (setS c i (some (.val (a x))))) →
    ∃ c2, compL [i] (fun x => Rs.ok true x) (fun c => frzR ((den k me).v c)) (gs.map a) c = .ok (gs.map b) c2 ∧ ∀ v, setS c2 i v = setS c i v
  | [], c, _ => ⟨c, rfl, fun _ => rfl⟩
  | x :: xs, c, h => by
    obtain ⟨c2, e, e2⟩ := comp_eq2 (gs := xs) (c := setS c i (some (.val (a x)))) fun y hy => by rw [set_set]; exact h y (List.mem_cons_of_mem _ hy)
    refine ⟨c2, ?_, fun v => by rw [e2, set_set]⟩
    rw [List.map_cons, comp_cons]
    rw [Rs.bind_ok, if_pos rfl, h x List.mem_cons_self, Rs.bind_ok, e, Rs.bind_ok]
    rfl
theorem comp_run2 {α : Type} {k : Call} {me : Ex} {i : Nat} {a b : α → D} {gs : List α} {c : Cfg} (h : ∀ x ∈ gs, frzR ((den k me).v (setS c i (some (.val (a x))))) = .ok (b x) (setS c i (some (.val (a x))))) :
    ∃ c2, compL [i] (fun x => Rs.ok true x) (fun c => frzR ((den k me).v c)) (gs.map a) c = .ok (gs.map b) c2 ∧ restore c [i] c2 = setS c i (getS c i) := by
  obtain ⟨c2, e, e2⟩ := comp_eq2 h
  exact ⟨c2, e, e2 _⟩


/-! Ls: functions made less. -/
mutual
noncomputable def Tm.plc : Tm → Nat
  | .nought m => m
  | .next => 1
  | .place m _ => m
  | .put _ gs => Tm.plcs gs
  | .round a _ => 1 + a.plc
noncomputable def Tm.plcs : List Tm → Nat
  | [] => 0
  | g :: _ => g.plc
end
mutual
theorem plc_ar : ∀ (t : Tm) (m : Nat), t.ar = some m → t.plc = m
  | .nought k, m, h => by simp only [Tm.ar] at h; split at h <;> simp_all [Tm.plc]
  | .next, m, h => by simp only [Tm.ar] at h; cases h; rfl
  | .place k i, m, h => by simp only [Tm.ar] at h; split at h <;> simp_all [Tm.plc]
  | .put f gs, m, h => by
    obtain ⟨_, h2, h3⟩ := put_inv h
    simp only [Tm.plc]
    exact plcs_ar gs m h2 h3
  | .round a b, m, h => by
    obtain ⟨x, rfl, h1, _, _⟩ := round_inv h
    simp only [Tm.plc, plc_ar a x h1]
    omega
theorem plcs_ar : ∀ (gs : List Tm) (m : Nat), gs ≠ [] → (∀ t ∈ gs, t.ar = some m) → Tm.plcs gs = m
  | [], m, h, _ => absurd rfl h
  | g :: _, m, _, h => by simp only [Tm.plcs]; exact plc_ar g m (h g List.mem_cons_self)
end
/-- all places -/
noncomputable def AP (m : Nat) : List Tm := (List.range m).map (Tm.place m)
noncomputable def lput (o : Tm) (gs : List Tm) : Tm := match o with
  | .nought _ => .nought (Tm.plcs gs)
  | .place _ i => gs.getD i o
  | _ => if gs = AP (Tm.plcs gs) then o else .put o gs
noncomputable def isNo : Tm → Bool
  | .nought _ => true
  | _ => false
noncomputable def lround (a b : Tm) : Tm :=
  if isNo a = true ∧ (b = .nought (a.plc + 2) ∨ b = .place (a.plc + 2) 1) then .nought (a.plc + 1)
  else if a.plc = 1 ∧ b = .place 3 1 then lput a [.place 2 1] else .round a b
mutual
noncomputable def ml : Tm → Tm
  | .nought m => .nought m
  | .next => .next
  | .place m i => .place m i
  | .put f gs => lput (ml f) (mls gs)
  | .round a b => lround (ml a) (ml b)
noncomputable def mls : List Tm → List Tm
  | [] => []
  | g :: gs => ml g :: mls gs
end
theorem mls_map : ∀ gs : List Tm, mls gs = gs.map ml
  | [] => rfl
  | g :: gs => by simp only [mls, List.map_cons, mls_map gs]
/-! made less again it is the same -/
theorem getD_mem {gs : List Tm} {i : Nat} {o : Tm} : gs.getD i o ∈ gs ∨ gs.getD i o = o := by
  by_cases h : i < gs.length
  · left; simp [h]
  · right; simp [Nat.not_lt.mp h]
/-! it has as many places -/
theorem AP_len (m : Nat) : (AP m).length = m := by simp [AP]
theorem lput_ar {o : Tm} {gs : List Tm} {m : Nat} (ho : o.ar = some gs.length) (hn : gs ≠ []) (hg : ∀ g ∈ gs, g.ar = some m) : (lput o gs).ar = some m := by
  have hp : Tm.plcs gs = m := plcs_ar gs m hn hg
  obtain ⟨g0, hg0⟩ := List.exists_mem_of_ne_nil gs hn
  have hm := Tm.ar_le (hg g0 hg0)
  have other : (if gs = AP (Tm.plcs gs) then o else Tm.put o gs).ar = some m := by
    split
    · rename_i c
      rw [ho]
      congr 1
      rw [hp] at c
      rw [c, AP_len]
    · exact put_ar ho hn hg
  cases o with
  | nought k => simp only [lput, hp, Tm.ar, if_pos hm]
  | place k i =>
    simp only [Tm.ar] at ho
    split at ho
    · rename_i c
      have hk : k = gs.length := by simpa using ho
      simp only [lput]
      have : gs.getD i (.place k i) = gs[i]'(by omega) := by simp [show i < gs.length by omega]
      rw [this]
      exact hg _ (List.getElem_mem _)
    · cases ho
  | next => exact other
  | put f hs => exact other
  | round a b => exact other
theorem lround_ar {a b : Tm} {x : Nat} (ha : a.ar = some x) (hb : b.ar = some (x + 2)) (hx : x < 4) : (lround a b).ar = some (x + 1) := by
  have hp := plc_ar a x ha
  unfold lround
  rw [hp]
  split
  · simp only [Tm.ar]
    rw [if_pos (by omega)]
  · split
    · rename_i c
      rw [c.1]
      refine lput_ar (by rw [ha, c.1]; rfl) (by simp) ?_
      intro g hg
      simp only [List.mem_singleton] at hg
      subst hg
      rfl
    · exact round_ar ha hb hx
mutual
theorem ml_ar : ∀ (t : Tm) (m : Nat), t.ar = some m → (ml t).ar = some m
  | .nought k, m, h => by simpa only [ml] using h
  | .next, m, h => by simpa only [ml] using h
  | .place k i, m, h => by simpa only [ml] using h
  | .put f gs, m, h => by
    obtain ⟨h1, h2, h3⟩ := put_inv h
    have hl : (mls gs).length = gs.length := by rw [mls_map, List.length_map]
    show (lput (ml f) (mls gs)).ar = some m
    refine lput_ar (by rw [ml_ar f _ h1, hl]) ?_ (mls_ar gs m h3)
    intro z
    rw [z] at hl
    cases gs
    · exact h2 rfl
    · simp at hl
  | .round a b, m, h => by
    obtain ⟨x, rfl, h1, h2, h3⟩ := round_inv h
    exact lround_ar (ml_ar a x h1) (ml_ar b _ h2) h3
theorem mls_ar : ∀ (gs : List Tm) (m : Nat), (∀ g ∈ gs, g.ar = some m) → ∀ g ∈ mls gs, g.ar = some m
  | [], m, h, g, hg => by simp [mls] at hg
  | t :: ts, m, h, g, hg => by
    simp only [mls, List.mem_cons] at hg
    rcases hg with rfl | hg
    · exact ml_ar t m (h t List.mem_cons_self)
    · exact mls_ar ts m (fun u hu => h u (List.mem_cons_of_mem _ hu)) g hg
end
/-! no more parts -/
theorem sz_mem : ∀ {gs : List Tm} {g : Tm}, g ∈ gs → g.sz ≤ Tm.szs gs
  | t :: ts, g, h => by
    simp only [Tm.szs]
    rcases List.mem_cons.mp h with rfl | h
    · omega
    · have := sz_mem h; omega
theorem lput_sz (o : Tm) (gs : List Tm) : (lput o gs).sz ≤ 1 + o.sz + Tm.szs gs := by
  have other : (if gs = AP (Tm.plcs gs) then o else Tm.put o gs).sz ≤ 1 + o.sz + Tm.szs gs := by
    split
    · omega
    · simp only [Tm.sz]; omega
  cases o with
  | nought k => simp only [lput, Tm.sz]; omega
  | place k i =>
    simp only [lput]
    rcases getD_mem (gs := gs) (i := i) (o := .place k i) with h | h
    · have := sz_mem h; omega
    · rw [h]; omega
  | next => exact other
  | put f hs => exact other
  | round a b => exact other
theorem lround_sz (a b : Tm) : (lround a b).sz ≤ 1 + a.sz + b.sz := by
  have := Tm.sz_pos a
  have := Tm.sz_pos b
  unfold lround
  split
  · simp only [Tm.sz]; omega
  · split
    · have := lput_sz a [.place 2 1]
      simp only [Tm.szs, Tm.sz] at this
      omega
    · simp only [Tm.sz]; omega
mutual
theorem ml_sz : ∀ t : Tm, (ml t).sz ≤ t.sz
  | .nought k => by simp only [ml]; omega
  | .next => by simp only [ml]; omega
  | .place k i => by simp only [ml]; omega
  | .put f gs => by
    have h1 := ml_sz f
    have h2 := mls_sz gs
    have h3 := lput_sz (ml f) (mls gs)
    show (lput (ml f) (mls gs)).sz ≤ _
    simp only [Tm.sz]
    omega
  | .round a b => by
    have h1 := ml_sz a
    have h2 := ml_sz b
    have h3 := lround_sz (ml a) (ml b)
    show (lround (ml a) (ml b)).sz ≤ _
    simp only [Tm.sz]
    omega
theorem mls_sz : ∀ gs : List Tm, Tm.szs (mls gs) ≤ Tm.szs gs
  | [] => by simp [mls]
  | g :: gs => by
    have h1 := ml_sz g
    have h2 := mls_sz gs
    simp only [mls, Tm.szs]
    omega
end
theorem Fit.ml {t : Tm} {m : Nat} (g : Fit t m) : Fit (ml t) m := ⟨ml_ar t m g.ar, Nat.le_trans (ml_sz t) g.sz⟩
theorem Fit.put {f : Tm} {gs : List Tm} {m : Nat} (g : Fit (.put f gs) m) : Fit f gs.length ∧ gs ≠ [] ∧ ∀ x ∈ gs, Fit x m := by
  obtain ⟨h1, h2, h3⟩ := put_inv g.ar
  have hs := g.sz
  simp only [Tm.sz] at hs
  exact ⟨⟨h1, by omega⟩, h2, fun x hx => ⟨h3 x hx, by have := sz_mem hx; omega⟩⟩
theorem Fit.round {a b : Tm} {m : Nat} (g : Fit (.round a b) m) : ∃ x, m = x + 1 ∧ Fit a x ∧ Fit b (x + 2) ∧ x < 4 := by
  obtain ⟨x, h1, h2, h3, h4⟩ := round_inv g.ar
  have hs := g.sz
  simp only [Tm.sz] at hs
  exact ⟨x, h1, ⟨h2, by omega⟩, ⟨h3, by omega⟩, h4⟩
theorem Fit.dep {t : Tm} {m : Nat} (g : Fit t m) : t.dep ≤ 60 := Nat.le_trans t.dep_sz g.sz
/-- a function of so many places, not too deep -/
structure Fk (K : Nat) (t : Tm) (m : Nat) : Prop where
  ar : t.ar = some m
  dep : t.dep ≤ K
theorem Fit.fk {t : Tm} {m : Nat} (g : Fit t m) : Fk 60 t m := ⟨g.ar, g.dep⟩
theorem Fk.put {K : Nat} {f : Tm} {gs : List Tm} {m : Nat} (g : Fk K (.put f gs) m) : Fk K f gs.length ∧ gs ≠ [] ∧ ∀ x ∈ gs, Fk K x m := by
  obtain ⟨h1, h2, h3⟩ := put_inv g.ar
  have hs := g.dep
  simp only [Tm.dep] at hs
  have key : ∀ (gs : List Tm) (x : Tm), x ∈ gs → x.dep ≤ Tm.deps gs := by
    intro gs
    induction gs with
    | nil => intro x h; cases h
    | cons a r ih =>
      intro x h
      simp only [Tm.deps]
      rcases List.mem_cons.mp h with rfl | h
      · omega
      · have := ih x h; omega
  exact ⟨⟨h1, by omega⟩, h2, fun x hx => ⟨h3 x hx, by have := key gs x hx; omega⟩⟩
theorem Fk.round {K : Nat} {a b : Tm} {m : Nat} (g : Fk K (.round a b) m) : ∃ x, m = x + 1 ∧ Fk K a x ∧ Fk K b (x + 2) ∧ x < 4 := by
  obtain ⟨x, h1, h2, h3, h4⟩ := round_inv g.ar
  have hs := g.dep
  simp only [Tm.dep] at hs
  exact ⟨x, h1, ⟨h2, by omega⟩, ⟨h3, by omega⟩, h4⟩
/-! Sp7: places, parts, sizes as the laws find them. -/
local macro_rules
  | `(tactic| walk_at "evn_1") => `(tactic| try simp (config := { decide := true, implicitDefEqProofs := false }) only [↓xs_nil, ↓xs_cons, ↓x_asg, ↓x_unp, ↓x_ifs, ↓x_for, ↓x_whl, ↓x_ret, ↓vi_eq, ↓x_pass, ↓x_brk, ↓x_exp, ↓x_raise, ↓x_raiseP, ↓x_try, ↓x_bad, ↓x_aug, ↓x_app, ↓x_ext, ↓x_inz, ↓x_six, ↓x_sixF, ↓x_augF, ↓x_augxF, ↓x_mk, ↓x_asgL, ↓x_sixL, ↓pe_eq, ↓v_var, ↓t_var, ↓v_con, ↓t_con, ↓v_glo, ↓t_glo, ↓t_tup, ↓t_lst, ↓t_pr, ↓t_chn, ↓t_slc, ↓t_call, ↓t_comp, ↓t_isx, ↓t_fld, ↓t_inD, ↓t_getD, ↓t_keysS, ↓t_compX, ↓t_fldO, ↓t_ixF, ↓t_mth, ↓t_mthN, ↓t_newm, ↓t_callK, ↓t_callD, ↓t_ixL, ↓t_mthL, ↓v_tup, ↓v_lst, ↓v_pr, ↓vs_nil, ↓ps_nil, ↓vs_cons, ↓ps_cons, ↓ts_nil, ↓ts_cons, ↓os_nil, ↓os_cons, ↓v_and, ↓t_and, ↓v_or, ↓t_or, ↓v_not, ↓t_not, ↓v_ite, ↓t_ite, ↓v_chn, ↓c_nil, ↓c_cons, ↓v_slc, ↓v_call, ↓v_callK, ↓v_callD, ↓v_comp, ↓v_compX, ↓v_isx, ↓v_fld, ↓v_inD, ↓v_getD, ↓v_keysS, ↓v_fldO, ↓v_ixF, ↓v_mth, ↓v_mthN, ↓v_newm, ↓v_ixL, ↓v_mthL, ↓xs_disp, ↓xh_nil, ↓xh_cons, ↓run_F, sqR_nx, sqR_rt, sqR_bk, sqR_ct, sqR_ex, sqR_no, sqR_if, asgR_ok, asgR_ex, asgR_no, asgR_if, unpB_s, unpB_n, unpR_ex, unpR_no, unpR_if, unpR_ok, ifR_ok, ifR_ex, ifR_no, ifR_if, forR_ok, forR_ex, forR_no, forR_if, rtR_ok, rtR_ex, rtR_no, rtR_if, retV_o, retV_v, retV_x, retV_b, retV_l, retV_n, retE_s, retE_n, expR_ok, expR_ex, expR_no, expR_if, rsR_ok, rsR_ex, rsR_no, rsR_if, tryH_ok, tryH_ex, tryH_no, tryH_if, pkV_v, pkV_o, pkV_x, pkV_b, pkV_l, pkV_n, pkE_s, pkE_n, varR_o, varR_v, varR_x, varR_b, varR_l, varR_n, vtR_o, vtR_v, vtR_x, vtR_b, vtR_l, vtR_n, tuR_ok, tuR_ex, tuR_no, tuR_if, lsR_ok, lsR_ex, lsR_no, lsR_if, prR_ok, prR_ex, prR_no, prR_if, vdR_ok, vdR_ex, vdR_no, vdR_if, vcR_ok, vcR_ex, vcR_no, vcR_if, pcR_ok, pcR_ex, pcR_no, pcR_if, anV_ok, anV_ex, anV_no, anV_if, orV_ok, orV_ex, orV_no, orV_if, anT_ok, anT_ex, anT_no, anT_if, orT_ok, orT_ex, orT_no, orT_if, noV_ok, noV_ex, noV_no, noV_if, noT_ok, noT_ex, noT_no, noT_if, iteV_ok, iteV_ex, iteV_no, iteV_if, iteT_ok, iteT_ex, iteT_no, iteT_if, chnR_ok, chnR_ex, chnR_no, chnR_if, chB_ok, chB_ex, chB_no, slC_ok, slC_ex, slC_no, slC_if, slB_ok, slB_ex, slB_no, slB_if, slR_ok, slR_ex, slR_no, slR_if, ccR_l, ccR_r, ccR_n, caR_ok, caR_ex, caR_no, caR_if, cdR_ok, cdR_ex, cdR_no, cdR_if, cmR_ok, cmR_ex, cmR_no, cmR_if, cxR_ok, cxR_ex, cxR_no, cxR_if, hcR_n, hcR_s, retOwn, peekR, denTs, denTs, Rs.bind_ok, Rs.bind_ex, Rs.bind_no, Rs.bind_ite, frz_v, frz_o, frz_x, frz_n, frz_i, tr_non, tr_bl, tr_int, tr_lst, tr_tup, tr_x, tr_n, tr_i, opt_s, opt_n, it_ok, it_ex, it_no, bnd_ok, nx_ok, nx_no, getS_0, getS_s, setS_0, setS_s, p_add, p_sub, p_neg, p_lt, p_le, p_gt, p_ge, p_isN, p_ntN, p_isi, p_lenL, p_lenT, p_tupL, p_tupT, p_lstL, p_lstT, p_ixT, p_ixL, p_rev, ev_ii, ev_ss, ev_st, ev_ts, ev_it, ev_ti, ev_is, ev_si, ev_ni, ixD_0, ixD_1, ixD_2, ixD_3, map_s, map_n, isi, isNone, chainR, fin_v, fin_o, fin_nx, fin_x, fin_i, savable, List.all_cons, List.all_nil, it_seqT, it_seqL, p_eq, p_ne, p_mul, p_mod, p_fdiv, p_pow, mulOk, Bool.or_true, Bool.true_or, Bool.or_false, Bool.false_or, decide_true, decide_false, dok_i, dok_s, dok_n, dok_t1, dok_t2, dok_t3, ev_tt, ev_ll, ev_nn, ev_cc, ev_nc, ev_cn, bindT, bindU, bindL, List.length_cons, List.length_nil, List.map_cons, List.map_nil, List.cons_append, List.nil_append, List.replicate, List.isEmpty_cons, List.isEmpty_nil, Bool.not_true, Bool.not_false, if_true, if_false, ite_true, ite_false, Bool.false_eq_true, reduceIte, Nat.sub_self, Nat.reduceAdd, Nat.reduceSub, Int.reduceEq, Int.reduceBEq, bne_self_eq_false, Bool.true_and, Bool.false_and, Bool.and_false, Bool.and_true, beq_self_eq_true, nc_add, nc_addl, nc_ladd, nc_mul, nc_mull, nc_lmul, nc_mod, nc_modl, nc_div, nc_divl, nc_sub1, nc_beq, nc_beql, nc_lbeq, nc_lt, nc_ltl, nc_llt, nc_le, nc_lel, nc_lle, nc_ltp, nc_ltlp, nc_lltp, decide_eq_true_eq, Bool.and_eq_true, Bool.or_eq_true, Bool.not_eq_true', decide_eq_false_iff_not, Nat.zero_lt_succ, Nat.add_one_ne_zero, Int.reduceDiv, Int.reduceMod, Int.reduceLT, Int.reduceLE, Int.reduceAdd, Int.reduceSub, Int.reduceMul, Int.reduceNeg, Nat.reduceMod, Nat.reduceDiv, Nat.reduceLT, or_true, true_or, or_false, false_or, and_true, true_and, and_false, false_and])
  | `(tactic| walk_at "evn*_1") => `(tactic| try simp (config := { decide := true, implicitDefEqProofs := false }) only [↓xs_nil, ↓xs_cons, ↓x_asg, ↓x_unp, ↓x_ifs, ↓x_for, ↓x_whl, ↓x_ret, ↓vi_eq, ↓x_pass, ↓x_brk, ↓x_exp, ↓x_raise, ↓x_raiseP, ↓x_try, ↓x_bad, ↓x_aug, ↓x_app, ↓x_ext, ↓x_inz, ↓x_six, ↓x_sixF, ↓x_augF, ↓x_augxF, ↓x_mk, ↓x_asgL, ↓x_sixL, ↓pe_eq, ↓v_var, ↓t_var, ↓v_con, ↓t_con, ↓v_glo, ↓t_glo, ↓t_tup, ↓t_lst, ↓t_pr, ↓t_chn, ↓t_slc, ↓t_call, ↓t_comp, ↓t_isx, ↓t_fld, ↓t_inD, ↓t_getD, ↓t_keysS, ↓t_compX, ↓t_fldO, ↓t_ixF, ↓t_mth, ↓t_mthN, ↓t_newm, ↓t_callK, ↓t_callD, ↓t_ixL, ↓t_mthL, ↓v_tup, ↓v_lst, ↓v_pr, ↓vs_nil, ↓ps_nil, ↓vs_cons, ↓ps_cons, ↓ts_nil, ↓ts_cons, ↓os_nil, ↓os_cons, ↓v_and, ↓t_and, ↓v_or, ↓t_or, ↓v_not, ↓t_not, ↓v_ite, ↓t_ite, ↓v_chn, ↓c_nil, ↓c_cons, ↓v_slc, ↓v_call, ↓v_callK, ↓v_callD, ↓v_comp, ↓v_compX, ↓v_isx, ↓v_fld, ↓v_inD, ↓v_getD, ↓v_keysS, ↓v_fldO, ↓v_ixF, ↓v_mth, ↓v_mthN, ↓v_newm, ↓v_ixL, ↓v_mthL, ↓xs_disp, ↓xh_nil, ↓xh_cons, ↓run_F, sqR_nx, sqR_rt, sqR_bk, sqR_ct, sqR_ex, sqR_no, sqR_if, asgR_ok, asgR_ex, asgR_no, asgR_if, unpB_s, unpB_n, unpR_ex, unpR_no, unpR_if, unpR_ok, ifR_ok, ifR_ex, ifR_no, ifR_if, forR_ok, forR_ex, forR_no, forR_if, rtR_ok, rtR_ex, rtR_no, rtR_if, retV_o, retV_v, retV_x, retV_b, retV_l, retV_n, retE_s, retE_n, expR_ok, expR_ex, expR_no, expR_if, rsR_ok, rsR_ex, rsR_no, rsR_if, tryH_ok, tryH_ex, tryH_no, tryH_if, pkV_v, pkV_o, pkV_x, pkV_b, pkV_l, pkV_n, pkE_s, pkE_n, varR_o, varR_v, varR_x, varR_b, varR_l, varR_n, vtR_o, vtR_v, vtR_x, vtR_b, vtR_l, vtR_n, tuR_ok, tuR_ex, tuR_no, tuR_if, lsR_ok, lsR_ex, lsR_no, lsR_if, prR_ok, prR_ex, prR_no, prR_if, vdR_ok, vdR_ex, vdR_no, vdR_if, vcR_ok, vcR_ex, vcR_no, vcR_if, pcR_ok, pcR_ex, pcR_no, pcR_if, anV_ok, anV_ex, anV_no, anV_if, orV_ok, orV_ex, orV_no, orV_if, anT_ok, anT_ex, anT_no, anT_if, orT_ok, orT_ex, orT_no, orT_if, noV_ok, noV_ex, noV_no, noV_if, noT_ok, noT_ex, noT_no, noT_if, iteV_ok, iteV_ex, iteV_no, iteV_if, iteT_ok, iteT_ex, iteT_no, iteT_if, chnR_ok, chnR_ex, chnR_no, chnR_if, chB_ok, chB_ex, chB_no, slC_ok, slC_ex, slC_no, slC_if, slB_ok, slB_ex, slB_no, slB_if, slR_ok, slR_ex, slR_no, slR_if, ccR_l, ccR_r, ccR_n, caR_ok, caR_ex, caR_no, caR_if, cdR_ok, cdR_ex, cdR_no, cdR_if, cmR_ok, cmR_ex, cmR_no, cmR_if, cxR_ok, cxR_ex, cxR_no, cxR_if, hcR_n, hcR_s, retOwn, peekR, denTs, denTs, Rs.bind_ok, Rs.bind_ex, Rs.bind_no, Rs.bind_ite, frz_v, frz_o, frz_x, frz_n, frz_i, tr_non, tr_bl, tr_int, tr_lst, tr_tup, tr_x, tr_n, tr_i, opt_s, opt_n, it_ok, it_ex, it_no, bnd_ok, nx_ok, nx_no, getS_0, getS_s, setS_0, setS_s, p_add, p_sub, p_neg, p_lt, p_le, p_gt, p_ge, p_isN, p_ntN, p_isi, p_lenL, p_lenT, p_tupL, p_tupT, p_lstL, p_lstT, p_ixT, p_ixL, p_rev, ev_ii, ev_ss, ev_st, ev_ts, ev_it, ev_ti, ev_is, ev_si, ev_ni, ixD_0, ixD_1, ixD_2, ixD_3, map_s, map_n, isi, isNone, chainR, fin_v, fin_o, fin_nx, fin_x, fin_i, savable, List.all_cons, List.all_nil, it_seqT, it_seqL, p_eq, p_ne, p_mul, p_mod, p_fdiv, p_pow, mulOk, Bool.or_true, Bool.true_or, Bool.or_false, Bool.false_or, decide_true, decide_false, dok_i, dok_s, dok_n, dok_t1, dok_t2, dok_t3, ev_tt, ev_ll, ev_nn, ev_cc, ev_nc, ev_cn, bindT, bindU, bindL, List.length_cons, List.length_nil, List.map_cons, List.map_nil, List.cons_append, List.nil_append, List.replicate, List.isEmpty_cons, List.isEmpty_nil, Bool.not_true, Bool.not_false, if_true, if_false, ite_true, ite_false, Bool.false_eq_true, reduceIte, Nat.sub_self, Nat.reduceAdd, Nat.reduceSub, Int.reduceEq, Int.reduceBEq, bne_self_eq_false, Bool.true_and, Bool.false_and, Bool.and_false, Bool.and_true, beq_self_eq_true, nc_add, nc_addl, nc_ladd, nc_mul, nc_mull, nc_lmul, nc_mod, nc_modl, nc_div, nc_divl, nc_sub1, nc_beq, nc_beql, nc_lbeq, nc_lt, nc_ltl, nc_llt, nc_le, nc_lel, nc_lle, nc_ltp, nc_ltlp, nc_lltp, decide_eq_true_eq, Bool.and_eq_true, Bool.or_eq_true, Bool.not_eq_true', decide_eq_false_iff_not, Nat.zero_lt_succ, Nat.add_one_ne_zero, Int.reduceDiv, Int.reduceMod, Int.reduceLT, Int.reduceLE, Int.reduceAdd, Int.reduceSub, Int.reduceMul, Int.reduceNeg, Nat.reduceMod, Nat.reduceDiv, Nat.reduceLT, or_true, true_or, or_false, false_or, and_true, true_and, and_false, false_and, *])

structure HSz (tab : Nat → Option Fn) : Prop where
  parts : tab F__law_parts = some f__law_parts
  size : tab F__law_size = some f__law_size
structure HLaw (tab : Nat → Option Fn) : Prop extends HSz tab where
  places : tab F__law_places = some f__law_places
noncomputable def Tm.parts : Tm → List Tm
  | .put f gs => f :: gs
  | .round a b => [a, b]
  | _ => []
theorem parts_sz (t : Tm) : t.sz = 1 + Tm.szs t.parts := by
  cases t <;> simp only [Tm.sz, Tm.parts, Tm.szs] <;> omega
section
variable {K : Nat} {tab : Nat → Option Fn} (h : tab F__law_places = some f__law_places)
include h
omit h in
end
section
variable {tab : Nat → Option Fn} (h : HSz tab)
include h
end


/-! Nr: a function with numbers, places, next put on it. -/


structure HNr (tab : Nat → Option Fn) : Prop where
  row : HRow tab
  gr : HGr tab
  near : tab F__law_near = some f__law_near
section
variable {tab : Nat → Option Fn} (h : HNr tab)
include h
end


/-! Lb: more steps of the evaluator, loops, comprehensions. -/
theorem e2_nn : PyData.eqv .none .none = true := by simp only [PyData.eqv]
theorem e2_nb {y : Bool} : PyData.eqv .none (.bool y) = false := by simp only [PyData.eqv]
theorem e2_ns {y : Str} : PyData.eqv .none (.str y) = false := by simp only [PyData.eqv]
theorem e2_nl {y : List D} : PyData.eqv .none (.list y) = false := by simp only [PyData.eqv]
theorem e2_nt {y : List D} : PyData.eqv .none (.tuple y) = false := by simp only [PyData.eqv]
theorem e2_bn {x : Bool} : PyData.eqv (.bool x) .none = false := by simp only [PyData.eqv]
theorem e2_bb {x : Bool} {y : Bool} : PyData.eqv (.bool x) (.bool y) = (x == y) := by simp only [PyData.eqv]
theorem e2_bi {x : Bool} {y : Int} : PyData.eqv (.bool x) (.int y) = ((if x then 1 else 0) == y) := by simp only [PyData.eqv]
theorem e2_bs {x : Bool} {y : Str} : PyData.eqv (.bool x) (.str y) = false := by simp only [PyData.eqv]
theorem e2_bl {x : Bool} {y : List D} : PyData.eqv (.bool x) (.list y) = false := by simp only [PyData.eqv]
theorem e2_bt {x : Bool} {y : List D} : PyData.eqv (.bool x) (.tuple y) = false := by simp only [PyData.eqv]
theorem e2_in {x : Int} : PyData.eqv (.int x) .none = false := by simp only [PyData.eqv]
theorem e2_ib {x : Int} {y : Bool} : PyData.eqv (.int x) (.bool y) = (x == (if y then 1 else 0)) := by simp only [PyData.eqv]
theorem e2_il {x : Int} {y : List D} : PyData.eqv (.int x) (.list y) = false := by simp only [PyData.eqv]
theorem e2_sn {x : Str} : PyData.eqv (.str x) .none = false := by simp only [PyData.eqv]
theorem e2_sb {x : Str} {y : Bool} : PyData.eqv (.str x) (.bool y) = false := by simp only [PyData.eqv]
theorem e2_sl {x : Str} {y : List D} : PyData.eqv (.str x) (.list y) = false := by simp only [PyData.eqv]
theorem e2_ln {x : List D} : PyData.eqv (.list x) .none = false := by simp only [PyData.eqv]
theorem e2_lb {x : List D} {y : Bool} : PyData.eqv (.list x) (.bool y) = false := by simp only [PyData.eqv]
theorem e2_li {x : List D} {y : Int} : PyData.eqv (.list x) (.int y) = false := by simp only [PyData.eqv]
theorem e2_ls {x : List D} {y : Str} : PyData.eqv (.list x) (.str y) = false := by simp only [PyData.eqv]
theorem e2_lt {x : List D} {y : List D} : PyData.eqv (.list x) (.tuple y) = false := by simp only [PyData.eqv]
theorem e2_tn {x : List D} : PyData.eqv (.tuple x) .none = false := by simp only [PyData.eqv]
theorem e2_tb {x : List D} {y : Bool} : PyData.eqv (.tuple x) (.bool y) = false := by simp only [PyData.eqv]
theorem e2_tl {x : List D} {y : List D} : PyData.eqv (.tuple x) (.list y) = false := by simp only [PyData.eqv]
theorem eqv_self_tm {t : Tm} : PyData.eqv t.d t.d = true := (eqv_tm t t).2 rfl
section
variable {α β : Type} {c : Cfg} {d e : D} {ds l l' : List D} {i j : Int} {x : Exn} {b t : Bool} {k : Call}
theorem isN_n : isNone .none = true := rfl
theorem isN_b : isNone (.bool b) = false := rfl
theorem isN_i : isNone (.int i) = false := rfl
theorem isN_s {s : Str} : isNone (.str s) = false := rfl
theorem isN_l : isNone (.list l) = false := rfl
theorem isN_t : isNone (.tuple l) = false := rfl
theorem isN_d (u : Tm) : isNone u.d = false := by cases u <;> simp only [Tm.d, isNone]
theorem isi_n {n : Nat} : isi n .none = false := by unfold isi; split <;> simp_all
theorem isi_b {n : Nat} : isi n (.bool b) = (decide (n = 0) || decide (n = 1)) := by unfold isi; split <;> simp_all
theorem isi_i {n : Nat} : isi n (.int i) = decide (n = 0) := by unfold isi; split <;> simp_all
theorem isi_s {n : Nat} {s : Str} : isi n (.str s) = decide (n = 2) := by unfold isi; split <;> simp_all
theorem isi_t {n : Nat} : isi n (.tuple l) = decide (n = 3) := by unfold isi; split <;> simp_all
theorem isi_l {n : Nat} : isi n (.list l) = decide (n = 4) := by unfold isi; split <;> simp_all
theorem isi_dc {n : Nat} {q : List (D × D)} : isi n (.dict q) = false := by unfold isi; split <;> simp_all
theorem isN_dc {q : List (D × D)} : isNone (.dict q) = false := rfl
theorem isi_d (u : Tm) {n : Nat} : isi n u.d = decide (n = 3) := by cases u <;> simp only [Tm.d, isi_t]
theorem it_enuL (h : l.length ≤ big) : itOf .enu [.list l] = some (enuD 0 l) := by simp only [itOf, if_pos h]
theorem enu_nil {n : Nat} : enuD n [] = [] := rfl
theorem enu_cons {n : Nat} : enuD n (d :: l) = .tuple [.int (n : Int), d] :: enuD (n + 1) l := rfl
theorem nx_ex {α : Type} : noX (.ex x c : Rs α) = .no := rfl
theorem try_ok {f : Fl} {h : Exn → Cfg → Rs Fl} : tryR (.ok f c) h = .ok f c := rfl
theorem try_ex {h : Exn → Cfg → Rs Fl} : tryR (.ex x c) h = h x c := rfl
theorem try_no {h : Exn → Cfg → Rs Fl} : tryR .no h = .no := rfl
theorem try_if {p : Prop} [Decidable p] {a b : Rs Fl} {h : Exn → Cfg → Rs Fl} : tryR (if p then a else b) h = if p then tryR a h else tryR b h := by split <;> rfl
theorem sx_eq {a b : XC} : subX a b = (decide (a = b) || match b with
  | .PaperError => decide (a ≠ .ValueError)
  | .ValueError => true
  | _ => false) := rfl
theorem noExc_n : noExc ⟨[]⟩ = true := rfl
theorem noExc_c {o : Option W} {r : List (Option W)} : noExc ⟨o :: r⟩ = ((match o with | some (.exc _ _) => false | _ => true) && noExc ⟨r⟩) := rfl
theorem rx_noX {α : Type} {r : Rs α} {p : Prop} [Decidable p] {a b : Rs α} : noX (if p then a else b) = if p then noX a else noX b := by split <;> rfl
end
/-- a comprehension over the pictures of a list, with a test -/
theorem comp_if {α : Type} {k : Call} {me mc : Ex} {i : Nat} {a b : α → D} {q : α → Bool} : ∀ {gs : List α} {c : Cfg},
    (∀ x ∈ gs, (den k mc).t (setS c i (some (.val (a x)))) = .ok (q x) (setS c i (some (.val (a x))))) →
    (∀ x ∈ gs, q x = true → frzR ((den k me).v (setS c i (some (.val (a x))))) = .ok (b x) (setS c i (some (.val (a x))))) →
    ∃ c2, compL [i] (denTs k (.cons mc .nil)) (fun c => frzR ((den k me).v c)) (gs.map a) c = .ok ((gs.filter q).map b) c2 ∧ ∀ v, setS c2 i v = setS c i v
  | [], c, _, _ => ⟨c, rfl, fun _ => rfl⟩
  | x :: xs, c, h1, h2 => by
    obtain ⟨c2, e, e2⟩ := comp_if (gs := xs) (c := setS c i (some (.val (a x)))) (fun y hy => by rw [set_set]; exact h1 y (List.mem_cons_of_mem _ hy)) (fun y hy hq => by rw [set_set]; exact h2 y (List.mem_cons_of_mem _ hy) hq)
    refine ⟨c2, ?_, fun v => by rw [e2, set_set]⟩
    rw [List.map_cons, comp_cons]
    have : denTs k (.cons mc .nil) (setS c i (some (.val (a x)))) = .ok (q x) (setS c i (some (.val (a x)))) := by simp only [denTs]; exact h1 x List.mem_cons_self
    rw [this, Rs.bind_ok, List.filter_cons]
    cases eq : q x with
    | true => rw [if_pos rfl, if_pos rfl, h2 x List.mem_cons_self eq, Rs.bind_ok, e, Rs.bind_ok]; rfl
    | false => rw [if_neg (by simp), if_neg (by simp), e]


/-! Ws: ways and parts. -/
local macro_rules
  | `(tactic| walk_at "w") => `(tactic| try simp (config := { decide := true, implicitDefEqProofs := false }) only [↓xs_nil, ↓xs_cons, ↓x_asg, ↓x_unp, ↓x_ifs, ↓x_for, ↓x_whl, ↓x_ret, ↓vi_eq, ↓x_pass, ↓x_brk, ↓x_exp, ↓x_raise, ↓x_raiseP, ↓x_try, ↓x_bad, ↓x_aug, ↓x_app, ↓x_ext, ↓x_inz, ↓x_six, ↓x_sixF, ↓x_augF, ↓x_augxF, ↓x_mk, ↓x_asgL, ↓x_sixL, ↓pe_eq, ↓v_var, ↓t_var, ↓v_con, ↓t_con, ↓v_glo, ↓t_glo, ↓t_tup, ↓t_lst, ↓t_pr, ↓t_chn, ↓t_slc, ↓t_call, ↓t_comp, ↓t_isx, ↓t_fld, ↓t_inD, ↓t_getD, ↓t_keysS, ↓t_compX, ↓t_fldO, ↓t_ixF, ↓t_mth, ↓t_mthN, ↓t_newm, ↓t_callK, ↓t_callD, ↓t_ixL, ↓t_mthL, ↓v_tup, ↓v_lst, ↓v_pr, ↓vs_nil, ↓ps_nil, ↓vs_cons, ↓ps_cons, ↓ts_nil, ↓ts_cons, ↓os_nil, ↓os_cons, ↓v_and, ↓t_and, ↓v_or, ↓t_or, ↓v_not, ↓t_not, ↓v_ite, ↓t_ite, ↓v_chn, ↓c_nil, ↓c_cons, ↓v_slc, ↓v_call, ↓v_callK, ↓v_callD, ↓v_comp, ↓v_compX, ↓v_isx, ↓v_fld, ↓v_inD, ↓v_getD, ↓v_keysS, ↓v_fldO, ↓v_ixF, ↓v_mth, ↓v_mthN, ↓v_newm, ↓v_ixL, ↓v_mthL, ↓xs_disp, ↓xh_nil, ↓xh_cons, ↓run_F, sqR_nx, sqR_rt, sqR_bk, sqR_ct, sqR_ex, sqR_no, sqR_if, asgR_ok, asgR_ex, asgR_no, asgR_if, unpB_s, unpB_n, unpR_ex, unpR_no, unpR_if, unpR_ok, ifR_ok, ifR_ex, ifR_no, ifR_if, forR_ok, forR_ex, forR_no, forR_if, rtR_ok, rtR_ex, rtR_no, rtR_if, retV_o, retV_v, retV_x, retV_b, retV_l, retV_n, retE_s, retE_n, expR_ok, expR_ex, expR_no, expR_if, rsR_ok, rsR_ex, rsR_no, rsR_if, tryH_ok, tryH_ex, tryH_no, tryH_if, pkV_v, pkV_o, pkV_x, pkV_b, pkV_l, pkV_n, pkE_s, pkE_n, varR_o, varR_v, varR_x, varR_b, varR_l, varR_n, vtR_o, vtR_v, vtR_x, vtR_b, vtR_l, vtR_n, tuR_ok, tuR_ex, tuR_no, tuR_if, lsR_ok, lsR_ex, lsR_no, lsR_if, prR_ok, prR_ex, prR_no, prR_if, vdR_ok, vdR_ex, vdR_no, vdR_if, vcR_ok, vcR_ex, vcR_no, vcR_if, pcR_ok, pcR_ex, pcR_no, pcR_if, anV_ok, anV_ex, anV_no, anV_if, orV_ok, orV_ex, orV_no, orV_if, anT_ok, anT_ex, anT_no, anT_if, orT_ok, orT_ex, orT_no, orT_if, noV_ok, noV_ex, noV_no, noV_if, noT_ok, noT_ex, noT_no, noT_if, iteV_ok, iteV_ex, iteV_no, iteV_if, iteT_ok, iteT_ex, iteT_no, iteT_if, chnR_ok, chnR_ex, chnR_no, chnR_if, chB_ok, chB_ex, chB_no, slC_ok, slC_ex, slC_no, slC_if, slB_ok, slB_ex, slB_no, slB_if, slR_ok, slR_ex, slR_no, slR_if, ccR_l, ccR_r, ccR_n, caR_ok, caR_ex, caR_no, caR_if, cdR_ok, cdR_ex, cdR_no, cdR_if, cmR_ok, cmR_ex, cmR_no, cmR_if, cxR_ok, cxR_ex, cxR_no, cxR_if, hcR_n, hcR_s, retOwn, peekR, denTs, denTs, Rs.bind_ok, Rs.bind_ex, Rs.bind_no, Rs.bind_ite, frz_v, frz_o, frz_x, frz_n, frz_i, tr_non, tr_bl, tr_int, tr_lst, tr_tup, tr_x, tr_n, tr_i, opt_s, opt_n, it_ok, it_ex, it_no, bnd_ok, nx_ok, nx_no, getS_0, getS_s, setS_0, setS_s, p_add, p_sub, p_neg, p_lt, p_le, p_gt, p_ge, p_isN, p_ntN, p_isi, p_lenL, p_lenT, p_tupL, p_tupT, p_lstL, p_lstT, p_ixT, p_ixL, p_rev, ev_ii, ev_ss, ev_st, ev_ts, ev_it, ev_ti, ev_is, ev_si, ev_ni, ixD_0, ixD_1, ixD_2, ixD_3, map_s, map_n, chainR, fin_v, fin_o, fin_nx, fin_x, fin_i, savable, List.all_cons, List.all_nil, it_seqT, it_seqL, p_eq, p_ne, p_mul, p_mod, p_fdiv, p_pow, mulOk, Bool.or_true, Bool.true_or, Bool.or_false, Bool.false_or, decide_true, decide_false, dok_i, dok_s, dok_n, dok_t1, dok_t2, dok_t3, ev_tt, ev_ll, ev_nn, ev_cc, ev_nc, ev_cn, bindT, bindU, bindL, List.length_cons, List.length_nil, List.map_cons, List.map_nil, List.cons_append, List.nil_append, List.replicate, List.isEmpty_cons, List.isEmpty_nil, Bool.not_true, Bool.not_false, if_true, if_false, ite_true, ite_false, Bool.false_eq_true, reduceIte, Nat.sub_self, Nat.reduceAdd, Nat.reduceSub, Int.reduceEq, Int.reduceBEq, bne_self_eq_false, Bool.true_and, Bool.false_and, Bool.and_false, Bool.and_true, beq_self_eq_true, nc_add, nc_addl, nc_ladd, nc_mul, nc_mull, nc_lmul, nc_mod, nc_modl, nc_div, nc_divl, nc_sub1, nc_beq, nc_beql, nc_lbeq, nc_lt, nc_ltl, nc_llt, nc_le, nc_lel, nc_lle, nc_ltp, nc_ltlp, nc_lltp, decide_eq_true_eq, Bool.and_eq_true, Bool.or_eq_true, Bool.not_eq_true', decide_eq_false_iff_not, Nat.zero_lt_succ, Nat.add_one_ne_zero, Int.reduceDiv, Int.reduceMod, Int.reduceLT, Int.reduceLE, Int.reduceAdd, Int.reduceSub, Int.reduceMul, Int.reduceNeg, Nat.reduceMod, Nat.reduceDiv, Nat.reduceLT, or_true, true_or, or_false, false_or, and_true, true_and, and_false, false_and, p_addL, p_addT, it_enuL, enu_nil, enu_cons, try_ok, try_ex, try_no, try_if, nx_ex, sx_eq, noExc_c, noExc_n, rx_noX, isN_n, isN_b, isN_i, isN_s, isN_l, isN_t, isN_d, isi_n, isi_b, isi_i, isi_s, isi_t, isi_l, isi_d, isi_dc, isN_dc, e2_nn, e2_nb, e2_ns, e2_nl, e2_nt, e2_bn, e2_bb, e2_bi, e2_bs, e2_bl, e2_bt, e2_in, e2_ib, e2_il, e2_sn, e2_sb, e2_sl, e2_ln, e2_lb, e2_li, e2_ls, e2_lt, e2_tn, e2_tb, e2_tl, *])
  | `(tactic| walk_at "w0") => `(tactic| try simp (config := { decide := true, implicitDefEqProofs := false }) only [↓xs_nil, ↓xs_cons, ↓x_asg, ↓x_unp, ↓x_ifs, ↓x_for, ↓x_whl, ↓x_ret, ↓vi_eq, ↓x_pass, ↓x_brk, ↓x_exp, ↓x_raise, ↓x_raiseP, ↓x_try, ↓x_bad, ↓x_aug, ↓x_app, ↓x_ext, ↓x_inz, ↓x_six, ↓x_sixF, ↓x_augF, ↓x_augxF, ↓x_mk, ↓x_asgL, ↓x_sixL, ↓pe_eq, ↓v_var, ↓t_var, ↓v_con, ↓t_con, ↓v_glo, ↓t_glo, ↓t_tup, ↓t_lst, ↓t_pr, ↓t_chn, ↓t_slc, ↓t_call, ↓t_comp, ↓t_isx, ↓t_fld, ↓t_inD, ↓t_getD, ↓t_keysS, ↓t_compX, ↓t_fldO, ↓t_ixF, ↓t_mth, ↓t_mthN, ↓t_newm, ↓t_callK, ↓t_callD, ↓t_ixL, ↓t_mthL, ↓v_tup, ↓v_lst, ↓v_pr, ↓vs_nil, ↓ps_nil, ↓vs_cons, ↓ps_cons, ↓ts_nil, ↓ts_cons, ↓os_nil, ↓os_cons, ↓v_and, ↓t_and, ↓v_or, ↓t_or, ↓v_not, ↓t_not, ↓v_ite, ↓t_ite, ↓v_chn, ↓c_nil, ↓c_cons, ↓v_slc, ↓v_call, ↓v_callK, ↓v_callD, ↓v_comp, ↓v_compX, ↓v_isx, ↓v_fld, ↓v_inD, ↓v_getD, ↓v_keysS, ↓v_fldO, ↓v_ixF, ↓v_mth, ↓v_mthN, ↓v_newm, ↓v_ixL, ↓v_mthL, ↓xs_disp, ↓xh_nil, ↓xh_cons, ↓run_F, sqR_nx, sqR_rt, sqR_bk, sqR_ct, sqR_ex, sqR_no, sqR_if, asgR_ok, asgR_ex, asgR_no, asgR_if, unpB_s, unpB_n, unpR_ex, unpR_no, unpR_if, unpR_ok, ifR_ok, ifR_ex, ifR_no, ifR_if, forR_ok, forR_ex, forR_no, forR_if, rtR_ok, rtR_ex, rtR_no, rtR_if, retV_o, retV_v, retV_x, retV_b, retV_l, retV_n, retE_s, retE_n, expR_ok, expR_ex, expR_no, expR_if, rsR_ok, rsR_ex, rsR_no, rsR_if, tryH_ok, tryH_ex, tryH_no, tryH_if, pkV_v, pkV_o, pkV_x, pkV_b, pkV_l, pkV_n, pkE_s, pkE_n, varR_o, varR_v, varR_x, varR_b, varR_l, varR_n, vtR_o, vtR_v, vtR_x, vtR_b, vtR_l, vtR_n, tuR_ok, tuR_ex, tuR_no, tuR_if, lsR_ok, lsR_ex, lsR_no, lsR_if, prR_ok, prR_ex, prR_no, prR_if, vdR_ok, vdR_ex, vdR_no, vdR_if, vcR_ok, vcR_ex, vcR_no, vcR_if, pcR_ok, pcR_ex, pcR_no, pcR_if, anV_ok, anV_ex, anV_no, anV_if, orV_ok, orV_ex, orV_no, orV_if, anT_ok, anT_ex, anT_no, anT_if, orT_ok, orT_ex, orT_no, orT_if, noV_ok, noV_ex, noV_no, noV_if, noT_ok, noT_ex, noT_no, noT_if, iteV_ok, iteV_ex, iteV_no, iteV_if, iteT_ok, iteT_ex, iteT_no, iteT_if, chnR_ok, chnR_ex, chnR_no, chnR_if, chB_ok, chB_ex, chB_no, slC_ok, slC_ex, slC_no, slC_if, slB_ok, slB_ex, slB_no, slB_if, slR_ok, slR_ex, slR_no, slR_if, ccR_l, ccR_r, ccR_n, caR_ok, caR_ex, caR_no, caR_if, cdR_ok, cdR_ex, cdR_no, cdR_if, cmR_ok, cmR_ex, cmR_no, cmR_if, cxR_ok, cxR_ex, cxR_no, cxR_if, hcR_n, hcR_s, retOwn, peekR, denTs, denTs, Rs.bind_ok, Rs.bind_ex, Rs.bind_no, Rs.bind_ite, frz_v, frz_o, frz_x, frz_n, frz_i, tr_non, tr_bl, tr_int, tr_lst, tr_tup, tr_x, tr_n, tr_i, opt_s, opt_n, it_ok, it_ex, it_no, bnd_ok, nx_ok, nx_no, getS_0, getS_s, setS_0, setS_s, p_add, p_sub, p_neg, p_lt, p_le, p_gt, p_ge, p_isN, p_ntN, p_isi, p_lenL, p_lenT, p_tupL, p_tupT, p_lstL, p_lstT, p_ixT, p_ixL, p_rev, ev_ii, ev_ss, ev_st, ev_ts, ev_it, ev_ti, ev_is, ev_si, ev_ni, ixD_0, ixD_1, ixD_2, ixD_3, map_s, map_n, chainR, fin_v, fin_o, fin_nx, fin_x, fin_i, savable, List.all_cons, List.all_nil, it_seqT, it_seqL, p_eq, p_ne, p_mul, p_mod, p_fdiv, p_pow, mulOk, Bool.or_true, Bool.true_or, Bool.or_false, Bool.false_or, decide_true, decide_false, dok_i, dok_s, dok_n, dok_t1, dok_t2, dok_t3, ev_tt, ev_ll, ev_nn, ev_cc, ev_nc, ev_cn, bindT, bindU, bindL, List.length_cons, List.length_nil, List.map_cons, List.map_nil, List.cons_append, List.nil_append, List.replicate, List.isEmpty_cons, List.isEmpty_nil, Bool.not_true, Bool.not_false, if_true, if_false, ite_true, ite_false, Bool.false_eq_true, reduceIte, Nat.sub_self, Nat.reduceAdd, Nat.reduceSub, Int.reduceEq, Int.reduceBEq, bne_self_eq_false, Bool.true_and, Bool.false_and, Bool.and_false, Bool.and_true, beq_self_eq_true, nc_add, nc_addl, nc_ladd, nc_mul, nc_mull, nc_lmul, nc_mod, nc_modl, nc_div, nc_divl, nc_sub1, nc_beq, nc_beql, nc_lbeq, nc_lt, nc_ltl, nc_llt, nc_le, nc_lel, nc_lle, nc_ltp, nc_ltlp, nc_lltp, decide_eq_true_eq, Bool.and_eq_true, Bool.or_eq_true, Bool.not_eq_true', decide_eq_false_iff_not, Nat.zero_lt_succ, Nat.add_one_ne_zero, Int.reduceDiv, Int.reduceMod, Int.reduceLT, Int.reduceLE, Int.reduceAdd, Int.reduceSub, Int.reduceMul, Int.reduceNeg, Nat.reduceMod, Nat.reduceDiv, Nat.reduceLT, or_true, true_or, or_false, false_or, and_true, true_and, and_false, false_and, p_addL, p_addT, it_enuL, enu_nil, enu_cons, try_ok, try_ex, try_no, try_if, nx_ex, sx_eq, noExc_c, noExc_n, rx_noX, isN_n, isN_b, isN_i, isN_s, isN_l, isN_t, isN_d, isi_n, isi_b, isi_i, isi_s, isi_t, isi_l, isi_d, isi_dc, isN_dc, e2_nn, e2_nb, e2_ns, e2_nl, e2_nt, e2_bn, e2_bb, e2_bi, e2_bs, e2_bl, e2_bt, e2_in, e2_ib, e2_il, e2_sn, e2_sb, e2_sl, e2_ln, e2_lb, e2_li, e2_ls, e2_lt, e2_tn, e2_tb, e2_tl])
noncomputable abbrev wD (w : List Nat) : D := .tuple (nL w)
mutual
noncomputable def Tm.wys : Tm → List (List Nat)
  | .put f gs => [] :: (f.wys.map (0 :: ·) ++ Tm.wyss 1 gs)
  | .round a b => [] :: (a.wys.map (0 :: ·) ++ b.wys.map (1 :: ·))
  | _ => [[]]
noncomputable def Tm.wyss : Nat → List Tm → List (List Nat)
  | _, [] => []
  | i, g :: gs => g.wys.map (i :: ·) ++ Tm.wyss (i + 1) gs
end
theorem szs_parts (t : Tm) : Tm.szs t.parts + 1 = t.sz := by rw [parts_sz]; omega
theorem part_sz {t g : Tm} (h : g ∈ t.parts) : g.sz < t.sz := by
  have := sz_mem h
  have := szs_parts t
  omega
theorem parts_len (t : Tm) : t.parts.length < t.sz := by
  have := Tm.szs_len t.parts
  have := szs_parts t
  omega
theorem Fit.part {t g : Tm} {m : Nat} (f : Fit t m) (h : g ∈ t.parts) : ∃ k, Fit g k := by
  cases t with
  | put a gs =>
    obtain ⟨f1, f2, f3⟩ := f.put
    simp only [Tm.parts, List.mem_cons] at h
    rcases h with rfl | h
    · exact ⟨_, f1⟩
    · exact ⟨_, f3 g h⟩
  | round a b =>
    obtain ⟨x, _, f1, f2, _⟩ := f.round
    simp only [Tm.parts, List.mem_cons, List.not_mem_nil, or_false] at h
    rcases h with rfl | rfl
    · exact ⟨_, f1⟩
    · exact ⟨_, f2⟩
  | _ => simp [Tm.parts] at h
/-- the part to which a thing leads -/
noncomputable def Tm.pt (t : Tm) : List D → Option Tm
  | [] => some t
  | .int i :: r => if 0 ≤ i then (match t.parts[i.toNat]? with | some u => u.pt r | none => none) else none
  | _ :: _ => none
theorem Fit.pt {t : Tm} {m : Nat} (f : Fit t m) : ∀ {w : List D} {u : Tm}, t.pt w = some u → ∃ k, Fit u k := by
  intro w
  induction w generalizing t m with
  | nil => intro u h; cases h; exact ⟨m, f⟩
  | cons d r ih =>
    intro u h
    cases d with
    | int i =>
      simp only [Tm.pt] at h
      split at h
      · cases e : t.parts[i.toNat]? with
        | none => rw [e] at h; cases h
        | some g =>
          rw [e] at h
          obtain ⟨k, fk⟩ := f.part (List.mem_of_getElem? e)
          exact ih fk h
      · cases h
    | _ => cases h
theorem pt_cons {t : Tm} {i : Nat} {r : List D} {u : Tm} (h : t.parts[i]? = some u) : t.pt (.int (i : Nat) :: r) = u.pt r := by
  simp only [Tm.pt]
  rw [if_pos (by omega), Int.toNat_natCast, h]
theorem ixds {gs : List Tm} {i : Nat} (hi : i < gs.length) : ixD (Tm.ds gs) (i : Int) = some (gs[i].d) := by
  rw [ixD_nat, Tm.ds_map, List.getElem?_map, List.getElem?_eq_getElem hi]; rfl
structure HWs (tab : Nat → Option Fn) : Prop where
  tm : HTm tab
  parts_right : tab F_parts_right = some f_parts_right
  part_at : tab F_part_at = some f_part_at
section
variable {tab : Nat → Option Fn}
theorem parts_any {F : Nat} (h : tab F = some f_parts_right) (t : Tm) (n : Nat) (hs : t.parts.length ≤ 100000) : (callN tab (n + 1)).f F [t.d] = some (.inl (.own (Tm.ds t.parts))) := by
  rw [call_eq h, f_parts_right]
  cases t with
  | put f gs =>
    simp only [Tm.d, Tm.parts, List.length_cons] at hs ⊢
    have hb : 0 + 1 + (Tm.ds gs).length ≤ big := by rw [Tm.ds_len]; unfold big; omega
    clear hs
    simp only [Tm.ds]
    walk_at "w"
  | _ =>
    simp only [Tm.d, Tm.parts, Tm.ds]
    clear hs
    walk_at "w0"
theorem is_within_any (h : HTm tab) (n : Nat) (d : D) (lo hi : Int) (hd : ∀ i, d ≠ .int i) : (callN tab (n + 1)).f F_is_within [d, .int lo, .int hi] = some (.inl (.val (.bool false))) := by
  rw [call_eq h.is_within, f_is_within]
  cases d with
  | int i => exact absurd rfl (hd i)
  | _ =>
    clear hd
    walk_at "w0"
variable (h : HWs tab)
include h
/-- the loop of part_at -/
theorem part_loop {n : Nat} {a b : Option W} : ∀ (w : List D) (t : Tm) (x3 x4 : Option W), t.sz ≤ 100000 →
    (∃ u y3 y4, t.pt w = some u ∧ forL [3] (exSs (callN tab (n + 1)) b_part_at_0) w ⟨[a, b, some (.val t.d), x3, x4]⟩ = .ok .nx ⟨[a, b, some (.val u.d), y3, y4]⟩) ∨ (t.pt w = none ∧ ∃ c', forL [3] (exSs (callN tab (n + 1)) b_part_at_0) w ⟨[a, b, some (.val t.d), x3, x4]⟩ = .ok (.rt (.val .none)) c')
  | [], t, x3, x4, _ => .inl ⟨t, x3, x4, rfl, rfl⟩
  | d :: r, t, x3, x4, hz => by
    have hp := parts_any h.parts_right t n (by have := parts_len t; omega)
    have no : (callN tab (n + 1)).f F_is_within [d, .int 0, .int ((Tm.ds t.parts).length - 1)] = some (.inl (.val (.bool false))) → (t.pt (d :: r) = none) → ∃ c', forL [3] (exSs (callN tab (n + 1)) b_part_at_0) (d :: r) ⟨[a, b, some (.val t.d), x3, x4]⟩ = .ok (.rt (.val .none)) c' := fun e _ => by
      refine ⟨⟨[a, b, some (.val t.d), some (.val d), some (.own (Tm.ds t.parts))]⟩, ?_⟩
      simp only [forL, bindT]
      unfold b_part_at_0
      walk_at "w"
    by_cases hd : ∀ i, d ≠ .int i
    · have e := is_within_any h.tm n d 0 ((Tm.ds t.parts).length - 1) hd
      have e2 : t.pt (d :: r) = none := by
        cases d with
        | int i => exact absurd rfl (hd i)
        | _ => rfl
      exact .inr ⟨e2, no e e2⟩
    · obtain ⟨i, rfl⟩ : ∃ i, d = .int i := by
        cases d with
        | int i => exact ⟨i, rfl⟩
        | _ => exact absurd (fun i z => by cases z) hd
      have e := is_within_ok h.tm n i 0 ((Tm.ds t.parts).length - 1)
      by_cases hi : 0 ≤ i ∧ i < t.parts.length
      · obtain ⟨j, rfl⟩ : ∃ j : Nat, i = j := ⟨i.toNat, by omega⟩
        have hj : j < t.parts.length := by omega
        have eg : t.parts[j]? = some t.parts[j] := List.getElem?_eq_getElem hj
        have ei : ixD (Tm.ds t.parts) (j : Int) = some t.parts[j].d := ixds hj
        have e1 : (callN tab (n + 1)).f F_is_within [.int (j : Int), .int 0, .int ((Tm.ds t.parts).length - 1)] = some (.inl (.val (.bool true))) := by
          rw [e, Tm.ds_len]
          simp
          omega
        have st : exSs (callN tab (n + 1)) b_part_at_0 (setS ⟨[a, b, some (.val t.d), x3, x4]⟩ 3 (some (.val (.int (j : Int))))) = .ok .nx ⟨[a, b, some (.val t.parts[j].d), some (.val (.int (j : Int))), some (.own (Tm.ds t.parts))]⟩ := by
          unfold b_part_at_0
          clear e eg no hi hd
          walk_at "w"
        have hm : t.parts[j] ∈ t.parts := List.getElem_mem _
        have e2 : t.pt (.int (j : Int) :: r) = t.parts[j].pt r := pt_cons eg
        rcases part_loop r t.parts[j] (some (.val (.int (j : Int)))) (some (.own (Tm.ds t.parts))) (by have := part_sz hm; omega) with ⟨u, y3, y4, q1, q2⟩ | ⟨q1, c', q2⟩
        · refine .inl ⟨u, y3, y4, by rw [e2]; exact q1, ?_⟩
          rw [for_cons, st, Rs.bind_ok]
          exact q2
        · refine .inr ⟨by rw [e2]; exact q1, c', ?_⟩
          rw [for_cons, st, Rs.bind_ok]
          exact q2
      · have e1 : (callN tab (n + 1)).f F_is_within [.int i, .int 0, .int ((Tm.ds t.parts).length - 1)] = some (.inl (.val (.bool false))) := by
          rw [e, Tm.ds_len]
          simp
          omega
        have e2 : t.pt (.int i :: r) = none := by
          simp only [Tm.pt]
          by_cases h0 : 0 ≤ i
          · rw [if_pos h0, List.getElem?_eq_none (by omega)]
          · rw [if_neg h0]
        exact .inr ⟨e2, no e1 e2⟩
noncomputable def ptD : Option Tm → D
  | some u => u.d
  | none => .none
theorem part_at_ok (t : Tm) (w : List D) (n : Nat) (hz : t.sz ≤ 100000) : (callN tab (n + 2)).f F_part_at [t.d, .tuple w] = some (.inl (.val (ptD (t.pt w)))) := by
  rw [call_eq h.part_at, f_part_at]
  rcases part_loop h (n := n) (a := some (.val t.d)) (b := some (.val (.tuple w))) w t none none hz with ⟨u, y3, y4, q1, q2⟩ | ⟨q1, c', q2⟩
  · rw [q1]
    simp only [ptD]
    walk_at "w"
  · rw [q1]
    simp only [ptD]
    walk_at "w"
theorem part_at_no (t : Tm) (d : D) (n : Nat) (hd : ∀ w, d ≠ .tuple w) : (callN tab (n + 1)).f F_part_at [t.d, d] = some (.inl (.val .none)) := by
  rw [call_eq h.part_at, f_part_at]
  cases d with
  | tuple w => exact absurd rfl (hd w)
  | _ =>
    clear hd
    walk_at "w0"
end
theorem part_ok {tab : Nat → Option Fn} (h : HWs tab) (hp : tab F_part = some f_part) {t : Tm} {m : Nat} (g : Fit t m) (d : D) (n : Nat) (hn : 130 ≤ n) : (callN tab (n + 1)).f F_part [t.d, d] = (match d with
    | .tuple w => (match t.pt w with
      | some u => some (.inl (.val u.d))
      | none => some (.inr ⟨.BadWay, some d⟩))
    | _ => some (.inr ⟨.BadWay, some d⟩)) := by
  have gd := g.dep
  have gz := g.sz
  have hc := checked_good h.tm g n (by omega)
  obtain ⟨n, rfl⟩ : ∃ k, n = k + 2 := ⟨n - 2, by omega⟩
  rw [call_eq hp, f_part]
  by_cases hd : ∀ w, d ≠ .tuple w
  · have e := part_at_no h t d (n + 1) hd
    cases d with
    | tuple w => exact absurd rfl (hd w)
    | _ =>
      clear hd gd gz g hn
      walk_at "w"
  · obtain ⟨w, rfl⟩ : ∃ w, d = .tuple w := by
      cases d with
      | tuple w => exact ⟨w, rfl⟩
      | _ => exact absurd (fun i z => by cases z) hd
    have e := part_at_ok h t w n (by omega)
    cases ep : t.pt w with
    | none =>
      rw [ep] at e
      simp only [ptD] at e
      clear hd gd gz g hn
      walk_at "w"
    | some u =>
      rw [ep] at e
      simp only [ptD] at e
      clear hd gd gz g hn
      walk_at "w"


/-! K10: ways and parts, as the law finds them. -/
structure HLw (tab : Nat → Option Fn) : Prop where
  parts : tab F__law_parts = some f__law_parts
  ways : tab F__law_ways = some f__law_ways
  at_ : tab F__law_at = some f__law_at
section
variable {tab : Nat → Option Fn}
section
variable (h : tab F__law_parts = some f__law_parts) (hw : tab F__law_ways = some f__law_ways)
include h hw
end
section
variable (h : tab F__law_parts = some f__law_parts) (ha : tab F__law_at = some f__law_at)
include h ha
end
end


/-! Dr: a drawn function. -/
structure HDr (tab : Nat → Option Fn) : Prop where
  row : HRow tab
  gr : HGr tab
  drawn : tab F__law_drawn = some f__law_drawn
section
variable {tab : Nat → Option Fn} (h : HDr tab)
include h
end


/-! Wp: a function with another thing in a part's stead. -/
theorem cut_1 {α : Type} {a : α} {l : List α} : cutL (a :: l) (some 1) none = l := by
  unfold cutL
  have h1 : HT.sIx (a :: l).length 0 (some 1) = 1 := by simp [HT.sIx]
  have h2 : HT.sIx (a :: l).length (a :: l).length none = l.length + 1 := by simp [HT.sIx]
  rw [h1, h2]
  simp
theorem slc_T {l : List D} {a : D} : sliceD (.tuple (a :: l)) (some 1) none = some (.val (.tuple l)) := by simp only [sliceD, cut_1]
theorem slc_L {l : List D} {a : D} : sliceD (.list (a :: l)) (some 1) none = some (.own l) := by simp only [sliceD, cut_1]
noncomputable def Tm.mk (t : Tm) (ps : List Tm) : Tm := match t, ps with
  | .put _ _, f :: gs => .put f gs
  | .round _ _, a :: b :: _ => .round a b
  | t, _ => t
noncomputable def Tm.wp (t : Tm) : List Nat → Tm → Tm
  | [], o => o
  | i :: r, o => match t.parts[i]? with
    | some g => t.mk (t.parts.set i (g.wp r o))
    | none => t
section
variable {tab : Nat → Option Fn}
theorem eq_nil {w : List Nat} : prim .eq [wD w, .tuple []] = some (.val (.bool w.isEmpty)) := by
  rw [p_eq, dok_r (by simp [PyData.depth, PyData.depthAll])]
  cases w with
  | nil => simp [PyData.eqv, PyData.eqvAll]
  | cons i r => simp [PyData.eqv, PyData.eqvAll]
end


/-! Tu: the rules, done on a function. -/
noncomputable abbrev ruB : Str := ⟨#[98, 101, 103, 105, 110]⟩
noncomputable abbrev ruM : Str := ⟨#[109, 111, 114, 101]⟩
noncomputable abbrev ruT : Str := ⟨#[116, 104, 114, 111, 117, 103, 104]⟩
noncomputable abbrev ruW : Str := ⟨#[119, 104, 111, 108, 101]⟩
mutual
noncomputable def Tm.lft (m : Nat) : Tm → Tm
  | .put f gs => .put f (Tm.lfts m gs)
  | .nought _ => .nought m
  | .next => .nought m
  | .place _ _ => .nought m
  | .round _ _ => .nought m
noncomputable def Tm.lfts (m : Nat) : List Tm → List Tm
  | [] => []
  | g :: gs => g.lft m :: Tm.lfts m gs
end
noncomputable def dnB (m : Nat) (f : Tm) (gs : List Tm) : Option Tm := match f, gs with
  | .round a _, .nought _ :: [] => some (a.lft m)
  | .round a _, .nought _ :: g :: rest => some (.put a (g :: rest))
  | _, _ => none
noncomputable def dnM (f : Tm) (gs : List Tm) : Option Tm := match f, gs with
  | .round a b, .put .next [l] :: rest => some (.put b (l :: .put (.round a b) (l :: rest) :: rest))
  | _, _ => none
noncomputable def dnN (m : Nat) (f : Tm) : Option Tm := match f with
  | .nought _ => some (.nought m)
  | _ => none
noncomputable def dnP (f : Tm) (gs : List Tm) : Option Tm := match f with
  | .place _ i => gs[i]?
  | _ => none
noncomputable def dnT (f : Tm) (gs : List Tm) : Option Tm := match f with
  | .put g hs => some (.put g (hs.map fun x => .put x gs))
  | _ => none
noncomputable def dnW (m : Nat) (f : Tm) (gs : List Tm) : Option Tm := if gs = AP m then some f else none
theorem Fk.len {f : Tm} {gs : List Tm} {m : Nat} {K : Nat} (g : Fk K (.put f gs) m) : gs.length ≤ 4 := Tm.ar_le g.put.1.ar
section
variable {K : Nat} {tab : Nat → Option Fn} (h : tab F_width = some f_width)
include h
end
structure HBy (tab : Nat → Option Fn) : Prop where
  width : tab F_width = some f_width
  all_places : tab F_all_places = some f_all_places
  lifted : tab F_lifted = some f_lifted
  by_begin : tab F_by_begin = some f_by_begin
  by_more : tab F_by_more = some f_by_more
  by_nought : tab F_by_nought = some f_by_nought
  by_place : tab F_by_place = some f_by_place
  by_through : tab F_by_through = some f_by_through
  by_whole : tab F_by_whole = some f_by_whole
  done : tab F_done = some f_done
section
variable {tab : Nat → Option Fn} (h : HBy tab)
include h
end
noncomputable def Tm.dn (m : Nat) (t : Tm) (r : Str) : Option Tm := match t with
  | .put f gs => if r = ruB then dnB m f gs else if r = ruM then dnM f gs else if r = zN then dnN m f else if r = zP then dnP f gs else if r = ruT then dnT f gs else if r = ruW then dnW m f gs else none
  | _ => none
section
variable {tab : Nat → Option Fn} (h : HBy tab)
include h
end
theorem Fit.len {f : Tm} {gs : List Tm} {m : Nat} (g : Fit (.put f gs) m) : gs.length ≤ 4 := g.fk.len
section
variable {tab : Nat → Option Fn}
end


/-! Tv: the rules as the law has them, and the turns. -/
structure HLr (tab : Nat → Option Fn) : Prop where
  places : tab F__law_places = some f__law_places
  lifted : tab F__law_lifted = some f__law_lifted
  ruled : tab F__law_ruled = some f__law_ruled
section
variable {tab : Nat → Option Fn} (h : HLr tab)
include h
end
section
variable {tab : Nat → Option Fn}
end


/-! Tw: the turns. -/
section
variable {tab : Nat → Option Fn}
structure HK13 (tab : Nat → Option Fn) : Prop where
  by_ : HBy tab
  ws : HWs tab
  nr : HNr tab
  lr : HLr tab
  parts : tab F__law_parts = some f__law_parts
  lat : tab F__law_at = some f__law_at
  lways : tab F__law_ways = some f__law_ways
  lturns : tab F__law_turns = some f__law_turns
  ways_of : tab F_ways_of = some f_ways_of
  turns_of : tab F_turns_of = some f_turns_of
  turns : tab F_turns = some f_turns
  law : tab F_law = some f_law_k13
end


/-! K11: changed. -/
structure HCh (tab : Nat → Option Fn) : Prop where
  ws : HWs tab
  arity : tab F_arity = some f_arity
  part : tab F_part = some f_part
  made_of : tab F_made_of = some f_made_of
  with_part : tab F_with_part = some f_with_part
  looked : tab F_looked = some f_looked
  changed : tab F_changed = some f_changed
section
variable {tab : Nat → Option Fn} (h : HCh tab)
include h
omit h in
end
structure HK11 (tab : Nat → Option Fn) : Prop where
  ch : HCh tab
  dr : HDr tab
  lw : HLaw tab
  lways : tab F__law_ways = some f__law_ways
  lat : tab F__law_at = some f__law_at
  lwith : tab F__law_with = some f__law_with
  other : tab F__law_other = some f__law_other
  lch : tab F__law_changed = some f__law_changed
  law : tab F_law = some f_law_k11
section
variable {tab : Nat → Option Fn} (h : HK11 tab)
include h
end


/-! Tx: what a rule makes: places, size, depth. -/

/-- what holds of what a rule makes -/
structure Made (u v : Tm) (k : Nat) : Prop where
  ar : v.ar = some k
  sz : v.sz ≤ 6 * u.sz
  dep : v.dep ≤ u.dep + 1
/-! Th: things of any kind: whether they are functions. -/
theorem d_inj {s t : Tm} (h : s.d = t.d) : s = t := (eqv_tm s t).1 (by rw [h]; exact eqv_self_tm)
/-- no function's picture -/
noncomputable def NoT (d : D) : Prop := ∀ t : Tm, d ≠ t.d
theorem ds_all : ∀ {gs : List D}, (∀ g ∈ gs, ¬ NoT g) → ∃ ts : List Tm, gs = Tm.ds ts
  | [], _ => ⟨[], rfl⟩
  | g :: gs, h => by
    obtain ⟨ts, rfl⟩ := ds_all fun x hx => h x (List.mem_cons_of_mem _ hx)
    obtain ⟨t, rfl⟩ : ∃ t : Tm, g = t.d := by
      have := h g List.mem_cons_self
      unfold NoT at this
      simpa using this
    exact ⟨t :: ts, rfl⟩
theorem isT_of {d : D} (h : ¬ NoT d) : ∃ t : Tm, d = t.d := by unfold NoT at h; simpa using h
theorem noT_put {a : D} {gs : List D} (h : NoT (.tuple [.str zU, a, .tuple gs])) : NoT a ∨ ∃ g ∈ gs, NoT g := by
  by_cases ha : NoT a
  · exact .inl ha
  · by_cases hg : ∃ g ∈ gs, NoT g
    · exact .inr hg
    · obtain ⟨f, rfl⟩ := isT_of ha
      obtain ⟨ts, rfl⟩ := ds_all (gs := gs) fun g hg' z => hg ⟨g, hg', z⟩
      exact absurd rfl (h (.put f ts))
theorem noT_round {a b : D} (h : NoT (.tuple [.str zR, a, b])) : NoT a ∨ NoT b := by
  by_cases ha : NoT a
  · exact .inl ha
  · by_cases hb : NoT b
    · exact .inr hb
    · obtain ⟨f, rfl⟩ := isT_of ha
      obtain ⟨g, rfl⟩ := isT_of hb
      exact absurd rfl (h (.round f g))
theorem noT_nought {a : D} (h : NoT (.tuple [.str zN, a])) (m : Nat) : a ≠ .int m := fun e => h (.nought m) (by rw [e]; rfl)
theorem noT_place {a b : D} (h : NoT (.tuple [.str zP, a, b])) (m i : Nat) : ¬ (a = .int m ∧ b = .int i) := fun e => h (.place m i) (by rw [e.1, e.2]; rfl)
section
variable {tab : Nat → Option Fn} (h : HTm tab)
include h
theorem within_no (n : Nat) {d : D} {lo hi : Int} (hd : ∀ m : Nat, d ≠ .int m) (hl : 0 ≤ lo) : (callN tab (n + 1)).f F_is_within [d, .int lo, .int hi] = some (.inl (.val (.bool false))) := by
  rw [call_eq h.is_within, f_is_within]
  cases d with
  | int i =>
    have hi : ¬ lo ≤ i := fun z => hd i.toNat (by congr 1; omega)
    clear hd hl
    walk_at "w"
  | _ =>
    clear hd
    walk_at "w0"
/-- what is none has no places -/
theorem po_no : ∀ (l : Nat) (d : D) (n : Nat), NoT d → 2 * l + 2 ≤ n → (callN tab n).f F_places_of [d, .int l] = some (.inl (.val .none)) := by
  intro l
  induction l using Nat.strongRecOn with
  | _ l ih =>
    intro d n hd hn
    obtain ⟨n, rfl⟩ : ∃ k, n = k + 2 := ⟨n - 2, by omega⟩
    rw [call_eq h.places_of, f_places_of]
    simp only [g_MOST_PLACES]
    cases d with
    | tuple r =>
      cases l with
      | zero => clear ih hd hn; walk_at "w0"
      | succ l =>
        have z : ¬ (((l + 1 : Nat) : Int) == 0) = true := by simp; omega
        have z' : (((l + 1 : Nat) : Int) == 0) = false := by simp; omega
        have z2 : decide (l + 1 = 0) = false := by simp
        cases r with
        | nil => clear ih hd hn; walk_at "w0"
        | cons w r =>
          cases w with
          | str s =>
            rcases r with _ | ⟨a, _ | ⟨b, _ | ⟨c, r⟩⟩⟩
            · have hs : ¬ s = zX := fun e => hd .next (by rw [e]; rfl)
              have hs' : (s == zX) = false := by simpa using hs
              clear ih hd hn hs
              walk_at "w"
              try simp
            · by_cases hs : s = zN
              · subst hs
                have wi := within_no h n (d := a) (lo := 0) (hi := 4) (noT_nought hd) (by omega)
                clear ih hd hn
                walk_at "w"
                try simp
              · have hs' : (s == zN) = false := by simpa using hs
                clear ih hd hn hs
                walk_at "w"
                try simp
            · by_cases hs : s = zP
              · subst hs
                by_cases ha : ∀ m : Nat, a ≠ .int m
                · have wi := within_no h n (d := a) (lo := 1) (hi := 4) ha (by omega)
                  clear ih hd hn
                  walk_at "w"
                  try simp
                · obtain ⟨m, rfl⟩ : ∃ m : Nat, a = .int m := by simpa using ha
                  have wi := is_within_ok h n (m : Int) 1 4
                  have wj := within_no h n (d := b) (lo := 0) (hi := (m : Int) - 1) (fun i e => noT_place hd m i ⟨rfl, e⟩) (by omega)
                  clear ih hd hn ha
                  walk_at "w"
                  try simp
              · by_cases hu : s = zU
                · subst hu
                  cases b with
                  | tuple gs =>
                    have pp : (callN tab (n + 1)).f F_places_put [.tuple [.str zU, a, .tuple gs], .int (l : Int)] = some (.inl (.val .none)) := by
                      rw [call_eq h.places_put, f_places_put]
                      rcases noT_put hd with na | ng
                      · have e := ih l (by omega) a n na (by omega)
                        clear ih hd hn
                        walk_at "w"
                      · by_cases na : NoT a
                        · have e := ih l (by omega) a n na (by omega)
                          clear ih hd hn
                          walk_at "w"
                        · obtain ⟨f, rfl⟩ := isT_of na
                          have e := po_ok h f l n (by omega)
                          cases ef : f.po l with
                          | none =>
                            rw [ef] at e
                            simp only [poD] at e
                            clear ih hd hn
                            walk_at "w"
                          | some kl =>
                            obtain ⟨k, l'⟩ := kl
                            rw [ef] at e
                            simp only [poD] at e
                            have hl' := po_lt ef
                            have loop : ∀ (gs : List D) (m : Option Nat) (l2 : Nat) (th o : W) (x4 x5 : Option W), l2 ≤ l → (∃ g ∈ gs, NoT g) → ∃ c', forL [4] (exSs (callN tab n) b_places_put_0) gs ⟨[some th, some (.val (.int l2)), some o, some (.val (m.elim .none fun m => .int (m : Nat))), x4, x5]⟩ = .ok (.rt (.val .none)) c' := by
                              intro gs
                              induction gs with
                              | nil => intro m l2 th o x4 x5 _ ⟨g, hg, _⟩; cases hg
                              | cons g gs ihg =>
                                intro m l2 th o x4 x5 hl2 ng
                                rw [for_cons]
                                by_cases hg : NoT g
                                · have rg : (callN tab n).f F_places_of [g, .int l2] = some (.inl (.val (poD none))) := ih l2 (by omega) g n hg (by omega)
                                  rw [put_step0 rg]
                                  exact ⟨_, rfl⟩
                                · obtain ⟨t, rfl⟩ := isT_of hg
                                  have rg := po_ok h t l2 n (by omega)
                                  have ng' : ∃ g ∈ gs, NoT g := by
                                    obtain ⟨x, hx, hn⟩ := ng
                                    rcases List.mem_cons.mp hx with rfl | hx
                                    · exact absurd hn hg
                                    · exact ⟨x, hx, hn⟩
                                  cases et : t.po l2 with
                                  | none =>
                                    rw [et] at rg
                                    rw [put_step0 rg]
                                    exact ⟨_, rfl⟩
                                  | some kl =>
                                    obtain ⟨k2, l3⟩ := kl
                                    rw [et] at rg
                                    have := po_lt et
                                    cases m with
                                    | none =>
                                      simp only [Option.elim]
                                      rw [put_step1 rg]
                                      exact ihg (some k2) l3 th o _ _ (by omega) ng'
                                    | some j =>
                                      simp only [Option.elim]
                                      rw [put_step2 rg]
                                      split
                                      · exact ⟨_, rfl⟩
                                      · exact ihg (some k2) l3 th o _ _ (by omega) ng'
                            obtain ⟨c', q⟩ := loop gs none l' (.val (.tuple [.str zU, f.d, .tuple gs])) (.val (.tuple [.int k, .int l'])) none none (by omega) ng
                            simp only [Option.elim] at q
                            by_cases c1 : ((k : Int) == 0) = true
                            · clear ih hd hn loop
                              walk_at "w"
                              try simp_all
                            · by_cases c2 : k = gs.length
                              · clear ih hd hn loop
                                have c1' : ¬ k = 0 := by simpa using c1
                                subst c2
                                clear c1
                                walk_at "w"
                              · clear ih hd hn loop
                                have c1' : ¬ k = 0 := by simpa using c1
                                walk_at "w"
                    clear ih hd hn hs
                    walk_at "w"
                    try simp
                  | _ =>
                    clear ih hd hn hs
                    walk_at "w"
                    try simp
                · by_cases hr : s = zR
                  · subst hr
                    have pp : (callN tab (n + 1)).f F_places_round [.tuple [.str zR, a, b], .int (l : Int)] = some (.inl (.val .none)) := by
                      rw [call_eq h.places_round, f_places_round]
                      simp only [g_MOST_PLACES]
                      by_cases na : NoT a
                      · have e := ih l (by omega) a n na (by omega)
                        clear ih hd hn
                        walk_at "w"
                      · have nb : NoT b := (noT_round hd).resolve_left na
                        obtain ⟨f, rfl⟩ := isT_of na
                        have e := po_ok h f l n (by omega)
                        cases ef : f.po l with
                        | none =>
                          rw [ef] at e
                          simp only [poD] at e
                          clear ih hd hn
                          walk_at "w"
                        | some kl =>
                          obtain ⟨k, l'⟩ := kl
                          rw [ef] at e
                          simp only [poD] at e
                          have hl' := po_lt ef
                          have eb := ih l' (by omega) b n nb (by omega)
                          by_cases c1 : 4 ≤ k
                          · clear ih hd hn
                            walk_at "w"
                          · clear ih hd hn
                            walk_at "w"
                    clear ih hd hn hs
                    walk_at "w"
                    try simp
                  · have h1 : (s == zP) = false := by simpa using hs
                    have h2 : (s == zU) = false := by simpa using hu
                    have h3 : (s == zR) = false := by simpa using hr
                    clear ih hd hn hs hu hr
                    walk_at "w"
                    try simp
            · have l1 : ¬ (r.length + 1 + 1 + 1 + 1 = 2) := by omega
              have l2 : ¬ (r.length + 1 + 1 + 1 + 1 = 3) := by omega
              clear ih hd hn
              walk_at "w"
              try simp
          | _ =>
            clear ih hd hn
            walk_at "w"
    | _ =>
      clear ih hd hn
      walk_at "w0"
      try (split <;> rfl)
end


/-! Is: the law's own look at things. -/

open Classical in
/-! Is2: the law's own look at things, walked. -/
mutual
/-- how wide tuples are -/
noncomputable def wid : D → Nat
  | .tuple l => max l.length (wids l)
  | .list l => if wids l ≤ 1000 then 0 else 1001
  | .dict _ => 1001
  | _ => 0
noncomputable def wids : List D → Nat
  | [] => 0
  | d :: l => max (wid d) (wids l)
end
structure HIs (tab : Nat → Option Fn) : Prop where
  whole : tab F__law_whole = some f__law_whole
  is : tab F__law_is = some f__law_is
section
variable {tab : Nat → Option Fn} (h : HIs tab)
include h
end


/-! Pa: papers: how many there are, what turns lead to. -/
theorem auP {i j : Int} : augP .add (.int i) (.int j) = some (.val (.int (i + j))) := rfl
noncomputable abbrev zTu : Str := ⟨#[116, 117, 114, 110, 115]⟩
noncomputable abbrev zBk : Str := ⟨#[98, 97, 99, 107]⟩
noncomputable abbrev zTh : Str := ⟨#[116, 104, 101, 110]⟩
noncomputable abbrev zRs : Str := ⟨#[114, 111, 117, 110, 100, 115]⟩
noncomputable abbrev zPa : Str := ⟨#[112, 97, 114, 116, 115]⟩
theorem cut_2 {α : Type} {a b : α} {l : List α} : cutL (a :: b :: l) (some 2) none = l := by
  unfold cutL
  have h1 : HT.sIx (a :: b :: l).length 0 (some 2) = 2 := by simp [HT.sIx]
  have h2 : HT.sIx (a :: b :: l).length (a :: b :: l).length none = l.length + 2 := by simp [HT.sIx]
  rw [h1, h2]
  simp
theorem slc_T2 {l : List D} {a b : D} : sliceD (.tuple (a :: b :: l)) (some 2) none = some (.val (.tuple l)) := by simp only [sliceD, cut_2]
local macro_rules
  | `(tactic| walk_at "w_1") => `(tactic| try simp (config := { decide := true, implicitDefEqProofs := false }) only [↓xs_nil, ↓xs_cons, ↓x_asg, ↓x_unp, ↓x_ifs, ↓x_for, ↓x_whl, ↓x_ret, ↓vi_eq, ↓x_pass, ↓x_brk, ↓x_exp, ↓x_raise, ↓x_raiseP, ↓x_try, ↓x_bad, ↓x_aug, ↓x_app, ↓x_ext, ↓x_inz, ↓x_six, ↓x_sixF, ↓x_augF, ↓x_augxF, ↓x_mk, ↓x_asgL, ↓x_sixL, ↓pe_eq, ↓v_var, ↓t_var, ↓v_con, ↓t_con, ↓v_glo, ↓t_glo, ↓t_tup, ↓t_lst, ↓t_pr, ↓t_chn, ↓t_slc, ↓t_call, ↓t_comp, ↓t_isx, ↓t_fld, ↓t_inD, ↓t_getD, ↓t_keysS, ↓t_compX, ↓t_fldO, ↓t_ixF, ↓t_mth, ↓t_mthN, ↓t_newm, ↓t_callK, ↓t_callD, ↓t_ixL, ↓t_mthL, ↓v_tup, ↓v_lst, ↓v_pr, ↓vs_nil, ↓ps_nil, ↓vs_cons, ↓ps_cons, ↓ts_nil, ↓ts_cons, ↓os_nil, ↓os_cons, ↓v_and, ↓t_and, ↓v_or, ↓t_or, ↓v_not, ↓t_not, ↓v_ite, ↓t_ite, ↓v_chn, ↓c_nil, ↓c_cons, ↓v_slc, ↓v_call, ↓v_callK, ↓v_callD, ↓v_comp, ↓v_compX, ↓v_isx, ↓v_fld, ↓v_inD, ↓v_getD, ↓v_keysS, ↓v_fldO, ↓v_ixF, ↓v_mth, ↓v_mthN, ↓v_newm, ↓v_ixL, ↓v_mthL, ↓xs_disp, ↓xh_nil, ↓xh_cons, ↓run_F, sqR_nx, sqR_rt, sqR_bk, sqR_ct, sqR_ex, sqR_no, sqR_if, asgR_ok, asgR_ex, asgR_no, asgR_if, unpB_s, unpB_n, unpR_ex, unpR_no, unpR_if, unpR_ok, ifR_ok, ifR_ex, ifR_no, ifR_if, forR_ok, forR_ex, forR_no, forR_if, rtR_ok, rtR_ex, rtR_no, rtR_if, retV_o, retV_v, retV_x, retV_b, retV_l, retV_n, retE_s, retE_n, expR_ok, expR_ex, expR_no, expR_if, rsR_ok, rsR_ex, rsR_no, rsR_if, tryH_ok, tryH_ex, tryH_no, tryH_if, pkV_v, pkV_o, pkV_x, pkV_b, pkV_l, pkV_n, pkE_s, pkE_n, varR_o, varR_v, varR_x, varR_b, varR_l, varR_n, vtR_o, vtR_v, vtR_x, vtR_b, vtR_l, vtR_n, tuR_ok, tuR_ex, tuR_no, tuR_if, lsR_ok, lsR_ex, lsR_no, lsR_if, prR_ok, prR_ex, prR_no, prR_if, vdR_ok, vdR_ex, vdR_no, vdR_if, vcR_ok, vcR_ex, vcR_no, vcR_if, pcR_ok, pcR_ex, pcR_no, pcR_if, anV_ok, anV_ex, anV_no, anV_if, orV_ok, orV_ex, orV_no, orV_if, anT_ok, anT_ex, anT_no, anT_if, orT_ok, orT_ex, orT_no, orT_if, noV_ok, noV_ex, noV_no, noV_if, noT_ok, noT_ex, noT_no, noT_if, iteV_ok, iteV_ex, iteV_no, iteV_if, iteT_ok, iteT_ex, iteT_no, iteT_if, chnR_ok, chnR_ex, chnR_no, chnR_if, chB_ok, chB_ex, chB_no, slC_ok, slC_ex, slC_no, slC_if, slB_ok, slB_ex, slB_no, slB_if, slR_ok, slR_ex, slR_no, slR_if, ccR_l, ccR_r, ccR_n, caR_ok, caR_ex, caR_no, caR_if, cdR_ok, cdR_ex, cdR_no, cdR_if, cmR_ok, cmR_ex, cmR_no, cmR_if, cxR_ok, cxR_ex, cxR_no, cxR_if, hcR_n, hcR_s, retOwn, peekR, denTs, denTs, Rs.bind_ok, Rs.bind_ex, Rs.bind_no, Rs.bind_ite, frz_v, frz_o, frz_x, frz_n, frz_i, tr_non, tr_bl, tr_int, tr_lst, tr_tup, tr_x, tr_n, tr_i, opt_s, opt_n, it_ok, it_ex, it_no, bnd_ok, nx_ok, nx_no, getS_0, getS_s, setS_0, setS_s, p_add, p_sub, p_neg, p_lt, p_le, p_gt, p_ge, p_isN, p_ntN, p_isi, p_lenL, p_lenT, p_tupL, p_tupT, p_lstL, p_lstT, p_ixT, p_ixL, p_rev, ev_ii, ev_ss, ev_st, ev_ts, ev_it, ev_ti, ev_is, ev_si, ev_ni, ixD_0, ixD_1, ixD_2, ixD_3, map_s, map_n, chainR, fin_v, fin_o, fin_nx, fin_x, fin_i, savable, List.all_cons, List.all_nil, it_seqT, it_seqL, p_eq, p_ne, p_mul, p_mod, p_fdiv, p_pow, mulOk, Bool.or_true, Bool.true_or, Bool.or_false, Bool.false_or, decide_true, decide_false, dok_i, dok_s, dok_n, dok_t1, dok_t2, dok_t3, ev_tt, ev_ll, ev_nn, ev_cc, ev_nc, ev_cn, bindT, bindU, bindL, List.length_cons, List.length_nil, List.map_cons, List.map_nil, List.cons_append, List.nil_append, List.replicate, List.isEmpty_cons, List.isEmpty_nil, Bool.not_true, Bool.not_false, if_true, if_false, ite_true, ite_false, Bool.false_eq_true, reduceIte, Nat.sub_self, Nat.reduceAdd, Nat.reduceSub, Int.reduceEq, Int.reduceBEq, bne_self_eq_false, Bool.true_and, Bool.false_and, Bool.and_false, Bool.and_true, beq_self_eq_true, nc_add, nc_addl, nc_ladd, nc_mul, nc_mull, nc_lmul, nc_mod, nc_modl, nc_div, nc_divl, nc_sub1, nc_beq, nc_beql, nc_lbeq, nc_lt, nc_ltl, nc_llt, nc_le, nc_lel, nc_lle, nc_ltp, nc_ltlp, nc_lltp, decide_eq_true_eq, Bool.and_eq_true, Bool.or_eq_true, Bool.not_eq_true', decide_eq_false_iff_not, Nat.zero_lt_succ, Nat.add_one_ne_zero, Int.reduceDiv, Int.reduceMod, Int.reduceLT, Int.reduceLE, Int.reduceAdd, Int.reduceSub, Int.reduceMul, Int.reduceNeg, Nat.reduceMod, Nat.reduceDiv, Nat.reduceLT, or_true, true_or, or_false, false_or, and_true, true_and, and_false, false_and, p_addL, p_addT, it_enuL, enu_nil, enu_cons, try_ok, try_ex, try_no, try_if, nx_ex, sx_eq, noExc_c, noExc_n, rx_noX, isN_n, isN_b, isN_i, isN_s, isN_l, isN_t, isN_d, isi_n, isi_b, isi_i, isi_s, isi_t, isi_l, isi_d, isi_dc, isN_dc, e2_nn, e2_nb, e2_ns, e2_nl, e2_nt, e2_bn, e2_bb, e2_bi, e2_bs, e2_bl, e2_bt, e2_in, e2_ib, e2_il, e2_sn, e2_sb, e2_sl, e2_ln, e2_lb, e2_li, e2_ls, e2_lt, e2_tn, e2_tb, e2_tl, auP, *])
/-! ### how many -/
noncomputable def kid (s : Str) (r : List D) : List D :=
  if s = zBk ∧ r.length = 1 then r else if s = zTh ∧ r.length = 3 then r.drop 1 else if s = zRs ∧ r.length = 2 then r else if s = zPa then (match r with | [.tuple l] => l | _ => []) else []
noncomputable def mpL (f : D → Nat) : Nat → List D → Nat
  | acc, [] => acc
  | acc, x :: xs => if 400 < acc + f x then 401 else mpL f (acc + f x) xs
/-- how many papers -/
noncomputable def mp : Nat → D → Nat
  | 0, _ => 401
  | k + 1, .tuple (.str s :: r) => if s = zTu ∧ r.length = 1 then 1 else if (kid s r).isEmpty then 401 else mpL (mp k) 1 (kid s r)
  | _ + 1, _ => 401
section
variable {tab : Nat → Option Fn}
theorem mp_loop {n k : Nat} {x0 x2 : Option W} : ∀ (xs : List D) (acc : Nat) (x4 : Option W), (∀ x ∈ xs, (callN tab n).f F_many_papers [x, .int (k : Nat)] = some (.inl (.val (.int (mp k x : Nat))))) →
    (∃ c', forL [4] (exSs (callN tab n) b_many_papers_0) xs ⟨[x0, some (.val (.int ((k + 1 : Nat) : Int))), x2, some (.val (.int (acc : Nat))), x4]⟩ = .ok (.rt (.val (.int 401))) c' ∧ mpL (mp k) acc xs = 401) ∨
    (∃ y4, forL [4] (exSs (callN tab n) b_many_papers_0) xs ⟨[x0, some (.val (.int ((k + 1 : Nat) : Int))), x2, some (.val (.int (acc : Nat))), x4]⟩ = .ok .nx ⟨[x0, some (.val (.int ((k + 1 : Nat) : Int))), x2, some (.val (.int (mpL (mp k) acc xs : Nat))), y4]⟩)
  | [], acc, x4, _ => .inr ⟨x4, rfl⟩
  | x :: xs, acc, x4, h => by
    have e := h x List.mem_cons_self
    rw [for_cons]
    simp only [setS_0, setS_s, mpL]
    by_cases c : 400 < acc + mp k x
    · have c' : (400 : Int) < ((acc + mp k x : Nat) : Int) := by omega
      refine .inl ⟨⟨[x0, some (.val (.int ((k + 1 : Nat) : Int))), x2, some (.val (.int ((acc + mp k x : Nat) : Int))), some (.val x)]⟩, ?_, by rw [if_pos c]⟩
      unfold b_many_papers_0 g_MOST_PAPERS
      generalize mp k x = v at *
      clear h
      walk_at "w_1"
    · rw [if_neg c]
      have st : exSs (callN tab n) b_many_papers_0 ⟨[x0, some (.val (.int ((k + 1 : Nat) : Int))), x2, some (.val (.int (acc : Nat))), some (.val x)]⟩ = .ok .nx ⟨[x0, some (.val (.int ((k + 1 : Nat) : Int))), x2, some (.val (.int ((acc + mp k x : Nat) : Int))), some (.val x)]⟩ := by
        unfold b_many_papers_0 g_MOST_PAPERS
        generalize mp k x = v at *
        clear h
        walk_at "w_1"
      rw [st, Rs.bind_ok]
      exact mp_loop xs (acc + mp k x) (some (.val x)) fun y hy => h y (List.mem_cons_of_mem _ hy)
theorem mp_tail {n k : Nat} {x0 : Option W} {ks : List D} (ih : ∀ x, (callN tab n).f F_many_papers [x, .int (k : Nat)] = some (.inl (.val (.int (mp k x : Nat))))) :
    finR (exSs (callN tab n) b_many_papers_1 ⟨[x0, some (.val (.int ((k + 1 : Nat) : Int))), some (.val (.tuple ks)), none, none]⟩) = some (.inl (.val (.int ((if ks.isEmpty then 401 else mpL (mp k) 1 ks : Nat) : Int)))) := by
  unfold b_many_papers_1 g_MOST_PAPERS
  cases ks with
  | nil =>
    clear ih
    walk_at "w_1"
    try rfl
  | cons a r =>
    have hl := mp_loop (n := n) (k := k) (x0 := x0) (x2 := some (.val (.tuple (a :: r)))) (a :: r) 1 none fun x _ => ih x
    rw [show (if (a :: r).isEmpty = true then 401 else mpL (mp k) 1 (a :: r)) = mpL (mp k) 1 (a :: r) from rfl]
    rw [show ((1 : Nat) : Int) = 1 from rfl] at hl
    rcases hl with ⟨c', e, e2⟩ | ⟨y4, e⟩
    · rw [e2]
      generalize b_many_papers_0 = B at *
      clear ih e2
      walk_at "w_1"
      try rfl
    · generalize mpL (mp k) 1 (a :: r) = R at *
      generalize b_many_papers_0 = B at *
      clear ih
      walk_at "w_1"
theorem many_papers_ok (h : tab F_many_papers = some f_many_papers) : ∀ (k : Nat) (d : D) (n : Nat), k + 1 ≤ n → (callN tab n).f F_many_papers [d, .int (k : Nat)] = some (.inl (.val (.int (mp k d : Nat))))
  | k, d, 0, hn => by omega
  | 0, d, n + 1, hn => by
    rw [call_eq h, f_many_papers, show mp 0 d = 401 by cases d <;> rfl]
    simp only [g_MOST_PAPERS]
    generalize b_many_papers_1 = B at *
    clear h hn
    walk_at "w_1"
    try rfl
  | k + 1, d, n + 1, hn => by
    have ih := fun x => many_papers_ok h k x n (by omega)
    have T := fun ks => mp_tail (n := n) (k := k) (x0 := some (.val d)) (ks := ks) ih
    rw [call_eq h, f_many_papers]
    simp only [g_MOST_PAPERS]
    clear ih h hn
    generalize b_many_papers_1 = B at *
    cases d with
    | tuple l =>
      cases l with
      | nil =>
        have e : mp (k + 1) (.tuple []) = 401 := rfl
        rw [e]
        clear T
        walk_at "w_1"
        try rfl
      | cons w r =>
        cases w with
        | str s =>
          have Tn := T []
          rw [show (if ([] : List D).isEmpty = true then 401 else mpL (mp k) 1 []) = 401 from rfl] at Tn
          by_cases h1 : s = zTu
          · subst h1
            rcases r with _ | ⟨a, _ | ⟨b, r⟩⟩
            · have e : mp (k + 1) (.tuple [.str zTu]) = 401 := rfl
              rw [e]
              clear T
              walk_at "w_1"
            · have e : mp (k + 1) (.tuple [.str zTu, a]) = 1 := rfl
              rw [e]
              clear T Tn
              walk_at "w_1"
              try rfl
            · have e : mp (k + 1) (.tuple (.str zTu :: a :: b :: r)) = 401 := by
                have c : ¬ ((a :: b :: r).length = 1) := by simp
                simp only [mp, kid, c, and_false, if_false]
                rfl
              rw [e]
              have c : decide (r.length + 1 + 1 + 1 = 2) = false := by simp
              clear T
              walk_at "w_1"
          · have s1 : (s == zTu) = false := by simpa using h1
            have em : mp (k + 1) (.tuple (.str s :: r)) = if (kid s r).isEmpty then 401 else mpL (mp k) 1 (kid s r) := by
              simp only [mp, h1, false_and, if_false]
            rw [em]
            by_cases h2 : s = zBk
            · subst h2
              rcases r with _ | ⟨a, _ | ⟨b, r⟩⟩
              · rw [show kid zBk [] = [] from rfl]
                clear T em h1
                walk_at "w_1"
                try rfl
              · rw [show kid zBk [a] = [a] from rfl]
                have Ta := T [a]
                have sl : sliceD (.tuple [.str zBk, a]) (some 1) none = some (.val (.tuple [a])) := slc_T
                clear T em h1 Tn
                generalize (if ([a] : List D).isEmpty = true then 401 else mpL (mp k) 1 [a]) = R at *
                walk_at "w_1"
              · rw [show kid zBk (a :: b :: r) = [] by
                  have c : ¬ ((a :: b :: r).length = 1) := by simp
                  simp only [kid, c, and_false, if_false]
                  rfl]
                have c : decide (r.length + 1 + 1 + 1 = 2) = false := by simp
                clear T em h1
                walk_at "w_1"
                try rfl
            · have s2 : (s == zBk) = false := by simpa using h2
              by_cases h3 : s = zTh
              · subst h3
                rcases r with _ | ⟨a, _ | ⟨b, _ | ⟨c, _ | ⟨e, r⟩⟩⟩⟩
                · rw [show kid zTh [] = [] from rfl]
                  clear T em h1 h2
                  walk_at "w_1"
                  try rfl
                · rw [show kid zTh [a] = [] from rfl]
                  clear T em h1 h2
                  walk_at "w_1"
                  try rfl
                · rw [show kid zTh [a, b] = [] from rfl]
                  clear T em h1 h2
                  walk_at "w_1"
                  try rfl
                · rw [show kid zTh [a, b, c] = [b, c] from rfl]
                  have Ta := T [b, c]
                  have sl : sliceD (.tuple [.str zTh, a, b, c]) (some 2) none = some (.val (.tuple [b, c])) := slc_T2
                  clear T em h1 Tn h2
                  generalize (if ([b, c] : List D).isEmpty = true then 401 else mpL (mp k) 1 [b, c]) = R at *
                  walk_at "w_1"
                · rw [show kid zTh (a :: b :: c :: e :: r) = [] by
                    have c : ¬ ((a :: b :: c :: e :: r).length = 3) := by simp
                    simp only [kid, c, and_false, if_false]
                    rfl]
                  have c : decide (r.length + 1 + 1 + 1 + 1 + 1 = 4) = false := by simp
                  clear T em h1 h2
                  walk_at "w_1"
                  try rfl
              · have s3 : (s == zTh) = false := by simpa using h3
                by_cases h4 : s = zRs
                · subst h4
                  rcases r with _ | ⟨a, _ | ⟨b, _ | ⟨e, r⟩⟩⟩
                  · rw [show kid zRs [] = [] from rfl]
                    clear T em h1 h2 h3
                    walk_at "w_1"
                    try rfl
                  · rw [show kid zRs [a] = [] from rfl]
                    clear T em h1 h2 h3
                    walk_at "w_1"
                    try rfl
                  · rw [show kid zRs [a, b] = [a, b] from rfl]
                    have Ta := T [a, b]
                    have sl : sliceD (.tuple [.str zRs, a, b]) (some 1) none = some (.val (.tuple [a, b])) := slc_T
                    clear T em h1 Tn h2 h3
                    generalize (if ([a, b] : List D).isEmpty = true then 401 else mpL (mp k) 1 [a, b]) = R at *
                    walk_at "w_1"
                  · rw [show kid zRs (a :: b :: e :: r) = [] by
                      have c : ¬ ((a :: b :: e :: r).length = 2) := by simp
                      simp only [kid, c, and_false, if_false]
                      rfl]
                    have c : decide (r.length + 1 + 1 + 1 + 1 = 3) = false := by simp
                    clear T em h1 h2 h3
                    walk_at "w_1"
                    try rfl
                · have s4 : (s == zRs) = false := by simpa using h4
                  by_cases h5 : s = zPa
                  · subst h5
                    rcases r with _ | ⟨a, _ | ⟨b, r⟩⟩
                    · rw [show kid zPa [] = [] from rfl]
                      clear T em h1 h2 h3 h4
                      walk_at "w_1"
                      try rfl
                    · cases a with
                      | tuple ks =>
                        rw [show kid zPa [.tuple ks] = ks from rfl]
                        have Ta := T ks
                        clear T em h1 Tn h2 h3 h4
                        generalize (if ks.isEmpty = true then 401 else mpL (mp k) 1 ks) = R at *
                        walk_at "w_1"
                      | _ =>
                        rw [show kid zPa [_] = [] from rfl]
                        clear T em h1 h2 h3 h4
                        walk_at "w_1"
                        try rfl
                    · rw [show kid zPa (a :: b :: r) = [] by
                        cases a <;> rfl]
                      have c : decide (r.length + 1 + 1 + 1 = 2) = false := by simp
                      clear T em h1 h2 h3 h4
                      walk_at "w_1"
                      try rfl
                  · have s5 : (s == zPa) = false := by simpa using h5
                    rw [show kid s r = [] by simp only [kid, h2, h3, h4, h5, false_and, if_false]]
                    clear T em h1 h2 h3 h4 h5
                    walk_at "w_1"
                    try rfl
        | _ =>
          rw [show mp (k + 1) (.tuple (_ :: r)) = 401 from rfl]
          clear T
          walk_at "w_1"
          try rfl
    | _ =>
      rw [show mp (k + 1) _ = 401 from rfl]
      clear T
      walk_at "w_1"
      try rfl
end


/-! Pb: turns, one behind the other, of any kind of rows. -/
/-! ### ways of any kind -/
theorem Fk.part {K : Nat} {t g : Tm} {m : Nat} (f : Fk K t m) (h : g ∈ t.parts) : ∃ k, Fk K g k := by
  cases t with
  | put a gs =>
    obtain ⟨f1, f2, f3⟩ := f.put
    simp only [Tm.parts, List.mem_cons] at h
    rcases h with rfl | h
    · exact ⟨_, f1⟩
    · exact ⟨_, f3 g h⟩
  | round a b =>
    obtain ⟨x, _, f1, f2, _⟩ := f.round
    simp only [Tm.parts, List.mem_cons, List.not_mem_nil, or_false] at h
    rcases h with rfl | rfl
    · exact ⟨_, f1⟩
    · exact ⟨_, f2⟩
  | _ => simp [Tm.parts] at h
theorem Fk.mono {K L : Nat} {t : Tm} {m : Nat} (f : Fk K t m) (h : K ≤ L) : Fk L t m := ⟨f.ar, Nat.le_trans f.dep h⟩
theorem Fk.pt {K : Nat} {t : Tm} {m : Nat} (f : Fk K t m) : ∀ {w : List D} {u : Tm}, t.pt w = some u → ∃ k, Fk K u k := by
  intro w
  induction w generalizing t m with
  | nil => intro u h; cases h; exact ⟨m, f⟩
  | cons d r ih =>
    intro u h
    cases d with
    | int i =>
      simp only [Tm.pt] at h
      split at h
      · cases e : t.parts[i.toNat]? with
        | none => rw [e] at h; cases h
        | some g =>
          rw [e] at h
          obtain ⟨k, fk⟩ := f.part (List.mem_of_getElem? e)
          exact ih fk h
      · cases h
    | _ => cases h
noncomputable def toN : D → Nat
  | .int i => i.toNat
  | _ => 0
/-! ### a turn of any kind -/
/-- what a row makes of a function -/
noncomputable def dnr (u : Tm) (k : Nat) : D → Option Tm
  | .str r => u.dn k r
  | _ => none
noncomputable def stp (t : Tm) : D → Option Tm
  | .tuple [.tuple w, r] => (t.pt w).bind fun u => (dnr u u.plc r).map fun v => t.wp (w.map toN) v
  | _ => none
/-- what a turn makes is a function again -/
structure StpOk (t v : Tm) (m : Nat) : Prop where
  ar : v.ar = some m
  dep : v.dep ≤ t.dep + 1
  sz : v.sz ≤ t.sz + 6 * t.sz
/-- turns one behind the other -/
noncomputable def wk : Tm → List D → Option Tm
  | t, [] => some t
  | t, row :: rs => match stp t row with
    | none => none
    | some v => if 400 < v.sz then none else wk v rs
noncomputable def byT (a b : Tm) : D → Bool
  | .tuple rows => decide (rows.length ≤ 200) && (match wk a rows with
    | some c => decide (c = b)
    | none => false)
  | _ => false
/-! ### the program's walk -/
structure HTa (tab : Nat → Option Fn) : Prop where
  ws : HWs tab
  by_ : HBy tab
  made_of : tab F_made_of = some f_made_of
  with_part : tab F_with_part = some f_with_part
  turned_at : tab F_turned_at = some f_turned_at
structure HMp (tab : Nat → Option Fn) : Prop where
  parts : tab F_parts_right = some f_parts_right
  many : tab F_many_parts = some f_many_parts
section
variable {tab : Nat → Option Fn}
end


/-! Cv: comprehensions as expressions. -/
/-- a comprehension of one name over the pictures of a list -/
theorem compV {α : Type} {k : Call} {me : Ex} {i : Nat} {ik : ItK} {es : Exs} {a b : α → D} {gs : List α} {c c1 : Cfg} (hit : itR ik (denVs k es c) = .ok (gs.map a) c1) (hs : savable [i] c1 = true) (he : setS c1 i (getS c1 i) = c1)
    (h : ∀ x ∈ gs, frzR ((den k me).v (setS c1 i (some (.val (a x))))) = .ok (b x) (setS c1 i (some (.val (a x))))) : (den k (.comp me [i] ik es .nil)).v c = .ok (.own (gs.map b)) c1 := by
  obtain ⟨c2, e, e2⟩ := comp_run2 h
  rw [den]
  unfold Den.of
  dsimp only
  rw [hit, Rs.bind_ok, if_pos hs]
  have e3 : compL [i] (denTs k .nil) (fun c => frzR ((den k me).v c)) (gs.map a) c1 = .ok (gs.map b) c2 := e
  rw [e3]
  show Rs.ok (W.own (gs.map b)) (restore c1 [i] c2) = _
  rw [e2, he]
theorem pr2_v {k : Call} {p : P} {a b : Ex} {c c1 c2 : Cfg} {x y : D} {w : W} (ha : peekR a c ((den k a).v c) = .ok x c1) (hb : peekR b c1 ((den k b).v c1) = .ok y c2) (hp : prim p [x, y] = some w) : (den k (.pr p (.cons a (.cons b .nil)))).v c = .ok w c2 := by
  rw [den]
  unfold Den.of
  dsimp only
  simp only [denPs, ha, Rs.bind_ok, hb, hp, opt_s]
theorem pk_comp {me : Ex} {tg : List Nat} {ik : ItK} {es cnd : Exs} {c c1 : Cfg} {k : Call} {l : List D} (h : (den k (.comp me tg ik es cnd)).v c = .ok (.own l) c1) : peekR (.comp me tg ik es cnd) c ((den k (.comp me tg ik es cnd)).v c) = .ok (.list l) c1 := by
  rw [h]
  rfl
/-! Pc: whether a thing shows that two functions are the same, as the program looks. -/
structure HPa (tab : Nat → Option Fn) (bt : Fn) : Prop where
  ta : HTa tab
  mp : HMp tab
  mpp : tab F_many_papers = some f_many_papers
  bt : tab F_by_turns = some bt
  bp : tab F_by_parts = some f_by_parts
  an : tab F_at_nought = some f_at_nought
  am : tab F_at_more = some f_at_more
  bth : tab F_by_then = some f_by_then
  sh : tab F_shows = some f_shows
  ip : tab F_is_paper = some f_is_paper
  ar : tab F_arity = some f_arity
section
variable {tab : Nat → Option Fn} {bt : Fn}
/-! ### what is put on a function -/
noncomputable def atN (a : Tm) (m : Nat) : Tm := .put a (.nought (m - 1) :: AP (m - 1))
noncomputable def atM (a : Tm) (m : Nat) : Tm := .put a (.put .next [.place m 0] :: (AP m).drop 1)
noncomputable def byTh (b a : Tm) (m : Nat) : Tm := .put b (.place m 0 :: a :: (AP m).drop 1)
end
/-! ### part by part -/
noncomputable def byPL (f : Tm → Tm → D → Bool) : List Tm → List Tm → List D → Bool
  | x :: xs, y :: ys, z :: zs => f x y z && byPL f xs ys zs
  | _, _, _ => true
noncomputable def Tm.wd : Tm → Str
  | .nought _ => zN
  | .next => zX
  | .place _ _ => zP
  | .put _ _ => zU
  | .round _ _ => zR
noncomputable def byP (f : Tm → Tm → D → Bool) (a b : Tm) (ps : List D) : Bool :=
  decide (a.wd = b.wd) && decide (a.parts.length = b.parts.length) && decide (ps.length = a.parts.length) && decide (a.parts.map Tm.plc = b.parts.map Tm.plc) && byPL f a.parts b.parts ps
section
variable {tab : Nat → Option Fn} {bt : Fn}
end


/-! Pd: a thing looked at as a paper, by the program. -/
/-! ### forms -/
noncomputable def kids : D → List D
  | .tuple (.str s :: r) => if s = zTu then [] else kid s r
  | _ => []
/-- at most so many papers within one another -/
noncomputable def pd : Nat → D → Prop
  | 0, _ => False
  | k + 1, d => ∀ x ∈ kids d, pd k x
/-- the form of a paper -/
inductive Form (k : Nat) : D → Prop where
  | tu (x : D) : Form k (.tuple [.str zTu, x])
  | ba (x : D) : mp k x ≤ 400 → Form k (.tuple [.str zBk, x])
  | th (m x y : D) : mp k x ≤ 400 → mp k y ≤ 400 → Form k (.tuple [.str zTh, m, x, y])
  | ro (x y : D) : mp k x ≤ 400 → mp k y ≤ 400 → Form k (.tuple [.str zRs, x, y])
  | pa (ps : List D) : ps ≠ [] → (∀ p ∈ ps, mp k p ≤ 400) → Form k (.tuple [.str zPa, .tuple ps])
/-! ### whether it shows -/
open Classical in
noncomputable def tmOf (d : D) : Option Tm := if h : ∃ t : Tm, d = t.d then some (Classical.choose h) else none
theorem tmOf_d (t : Tm) : tmOf t.d = some t := by
  have h : ∃ u : Tm, t.d = u.d := ⟨t, rfl⟩
  unfold tmOf
  rw [dif_pos h]
  exact congrArg some (d_inj (Classical.choose_spec h)).symm
theorem tmOf_no {d : D} (h : NoT d) : tmOf d = none := by
  unfold tmOf
  rw [dif_neg]
  rintro ⟨t, e⟩
  exact h t e
noncomputable def sh : Nat → Tm → Tm → D → Bool
  | 0, _, _, _ => false
  | k + 1, a, b, .tuple (.str s :: r) =>
    if s = zTu then (match r with | x :: _ => byT a b x | _ => false)
    else if s = zBk then (match r with | x :: _ => sh k b a x | _ => false)
    else if s = zPa then (match r with | .tuple ps :: _ => byP (fun x y z => sh k x y z) a b ps | _ => false)
    else if s = zTh then (match r with
      | [m, x, y] => (match tmOf m with
        | some t => if t.isT = true ∧ t.plc = a.plc then sh k a t x && sh k t b y else false
        | none => false)
      | _ => false)
    else (match r with
      | [x, y] => (match b with
        | .round b1 b2 => if sh k (atN a a.plc) b1 x then sh k (atM a a.plc) (byTh b2 a a.plc) y else false
        | _ => false)
      | _ => false)
  | _ + 1, _, _, _ => false
/-! ### bounds -/
structure Bdd (k : Nat) (a b : Tm) : Prop where
  da : a.dep + 2 * k ≤ 95
  db : b.dep + 2 * k ≤ 95
  sz : (a.sz + b.sz + 73) * 2 ^ k ≤ 100000
theorem Bdd.le {k : Nat} {a b c d : Tm} (h : Bdd (k + 1) a b) (h1 : c.dep + 2 * k ≤ 95) (h2 : d.dep + 2 * k ≤ 95) (h3 : c.sz + d.sz + 73 ≤ (a.sz + b.sz + 73) * 2) : Bdd k c d := by
  refine ⟨h1, h2, Nat.le_trans (Nat.mul_le_mul_right _ h3) ?_⟩
  have := h.sz
  rw [Nat.pow_succ] at this
  rw [Nat.mul_assoc, Nat.mul_comm 2]
  exact this
structure BdR (r : Nat) (a b : Tm) : Prop where
  da : a.dep + 2 * r ≤ 95
  db : b.dep + 2 * r ≤ 95
  sz : (max (max a.sz b.sz) 60 + 13) * 2 ^ r ≤ 100000
theorem Bdd.r {k : Nat} {a b : Tm} (h : Bdd k a b) : BdR k a b := ⟨h.da, h.db, Nat.le_trans (Nat.mul_le_mul_right _ (by omega)) h.sz⟩
theorem BdR.same {r : Nat} {a b c d : Tm} (h : BdR r a b) (h1 : c.dep + 2 * r ≤ 95) (h2 : d.dep + 2 * r ≤ 95) (h3 : max (max c.sz d.sz) 60 ≤ max (max a.sz b.sz) 60) : BdR r c d := ⟨h1, h2, Nat.le_trans (Nat.mul_le_mul_right _ (by omega)) h.sz⟩
theorem BdR.next {r : Nat} {a b c d : Tm} (h : BdR (r + 1) a b) (h1 : c.dep + 2 * r ≤ 95) (h2 : d.dep + 2 * r ≤ 95) (h3 : max (max c.sz d.sz) 60 + 13 ≤ (max (max a.sz b.sz) 60 + 13) * 2) : BdR r c d := by
  refine ⟨h1, h2, Nat.le_trans (Nat.mul_le_mul_right _ h3) ?_⟩
  have := h.sz
  rw [Nat.pow_succ] at this
  rw [Nat.mul_assoc, Nat.mul_comm 2]
  exact this
theorem BdR.s {r : Nat} {a b : Tm} (h : BdR r a b) : max (max a.sz b.sz) 60 + 13 ≤ 100000 := by
  have := h.sz
  have h1 : 1 ≤ 2 ^ r := Nat.one_le_two_pow
  calc max (max a.sz b.sz) 60 + 13 = (max (max a.sz b.sz) 60 + 13) * 1 := by omega
    _ ≤ (max (max a.sz b.sz) 60 + 13) * 2 ^ r := Nat.mul_le_mul_left _ h1
    _ ≤ 100000 := this
structure PutOk (t : Tm) (m d s : Nat) : Prop where
  ar : t.ar = some m
  dep : t.dep ≤ d
  sz : t.sz ≤ s
section
variable {tab : Nat → Option Fn} {bt : Fn}
theorem is_term_any (h : HTm tab) (d : D) (n : Nat) (hn : 125 ≤ n) : (callN tab n).f F_is_term [d] = some (.inl (.val (.bool (match tmOf d with | some t => t.isT | none => false)))) := by
  by_cases c : NoT d
  · obtain ⟨n, rfl⟩ : ∃ k, n = k + 1 := ⟨n - 1, by omega⟩
    have e := po_no h 60 d n c (by omega)
    have e : (callN tab n).f F_places_of [d, .int 60] = some (.inl (.val .none)) := e
    rw [tmOf_no c, call_eq h.is_term, f_is_term]
    simp only [g_MOST_PARTS]
    clear h hn c
    walk_at "w_1"
  · obtain ⟨t, rfl⟩ := isT_of c
    rw [tmOf_d]
    exact is_term_ok h t n (by omega)
end


/-! Ty: turned, and k14. -/
structure HTd (tab : Nat → Option Fn) : Prop where
  ws : HWs tab
  by_ : HBy tab
  part : tab F_part = some f_part
  made_of : tab F_made_of = some f_made_of
  with_part : tab F_with_part = some f_with_part
  looked : tab F_looked = some f_looked
  turned_at : tab F_turned_at = some f_turned_at
  turned : tab F_turned = some f_turned
section
variable {tab : Nat → Option Fn}
section
variable (h : HTd tab)
include h
end
end


/-! Vl: values by steps that are left. -/
/-- going round: so often yet, the time, what was found, steps left -/
noncomputable def evL (f : List Nat → Nat → Option (Nat × Nat)) (rest : List Nat) : Nat → Nat → Nat → Nat → Option (Nat × Nat)
  | 0, _, v, l => some (v, l)
  | k + 1, i, v, l => match f (i :: v :: rest) l with
    | some (v', l') => evL f rest k (i + 1) v' l'
    | none => none
mutual
noncomputable def Tm.ev : Tm → List Nat → Nat → Option (Nat × Nat)
  | t, ns, 0 => none
  | .nought _, ns, l + 1 => some (0, l)
  | .next, ns, l + 1 => some (ns.getD 0 0 + 1, l)
  | .place _ i, ns, l + 1 => some (ns.getD i 0, l)
  | .put f gs, ns, l + 1 => match Tm.evs gs ns l with
    | some (vs, l') => f.ev vs l'
    | none => none
  | .round a b, ns, l + 1 => match a.ev ns.tail l with
    | some (v, l') => evL b.ev ns.tail (ns.getD 0 0) 0 v l'
    | none => none
noncomputable def Tm.evs : List Tm → List Nat → Nat → Option (List Nat × Nat)
  | [], ns, l => some ([], l)
  | g :: gs, ns, l => match g.ev ns l with
    | some (v, l') => (match Tm.evs gs ns l' with
      | some (vs, l'') => some (v :: vs, l'')
      | none => none)
    | none => none
end
theorem ev_0 (t : Tm) (ns : List Nat) : t.ev ns 0 = none := by cases t <;> simp [Tm.ev]
theorem evL_mono {f : List Nat → Nat → Option (Nat × Nat)} (hf : ∀ ns l v l', f ns l = some (v, l') → l' < l ∧ ∀ k, f ns (l + k) = some (v, l' + k)) (rest : List Nat) : ∀ (n i v l v' l' : Nat), evL f rest n i v l = some (v', l') → l' ≤ l ∧ ∀ k, evL f rest n i v (l + k) = some (v', l' + k)
  | 0, i, v, l, v', l', e => by
    simp only [evL] at e
    cases e
    exact ⟨Nat.le_refl _, fun k => rfl⟩
  | n + 1, i, v, l, v', l', e => by
    simp only [evL] at e
    cases e1 : f (i :: v :: rest) l with
    | none => rw [e1] at e; cases e
    | some p =>
      obtain ⟨v1, l1⟩ := p
      rw [e1] at e
      obtain ⟨h1, h2⟩ := hf _ _ _ _ e1
      obtain ⟨h3, h4⟩ := evL_mono hf rest n (i + 1) v1 l1 v' l' e
      refine ⟨by omega, fun k => ?_⟩
      simp only [evL, h2 k]
      exact h4 k
mutual
theorem ev_mono : ∀ (t : Tm) (ns : List Nat) (l v l' : Nat), t.ev ns l = some (v, l') → l' < l ∧ ∀ k, t.ev ns (l + k) = some (v, l' + k)
  | t, ns, 0, v, l', e => by rw [ev_0] at e; cases e
  | .nought _, ns, l + 1, v, l', e => by
    simp only [Tm.ev] at e
    cases e
    exact ⟨by omega, fun k => by rw [show l + 1 + k = (l + k) + 1 by omega]; simp only [Tm.ev]⟩
  | .next, ns, l + 1, v, l', e => by
    simp only [Tm.ev] at e
    cases e
    exact ⟨by omega, fun k => by rw [show l + 1 + k = (l + k) + 1 by omega]; simp only [Tm.ev]⟩
  | .place _ i, ns, l + 1, v, l', e => by
    simp only [Tm.ev] at e
    cases e
    exact ⟨by omega, fun k => by rw [show l + 1 + k = (l + k) + 1 by omega]; simp only [Tm.ev]⟩
  | .put f gs, ns, l + 1, v, l', e => by
    simp only [Tm.ev] at e
    cases e1 : Tm.evs gs ns l with
    | none => rw [e1] at e; cases e
    | some p =>
      obtain ⟨vs, l1⟩ := p
      rw [e1] at e
      obtain ⟨h1, h2⟩ := evs_mono gs ns l vs l1 e1
      obtain ⟨h3, h4⟩ := ev_mono f vs l1 v l' e
      refine ⟨by omega, fun k => ?_⟩
      rw [show l + 1 + k = (l + k) + 1 by omega]
      simp only [Tm.ev, h2 k]
      exact h4 k
  | .round a b, ns, l + 1, v, l', e => by
    simp only [Tm.ev] at e
    cases e1 : a.ev ns.tail l with
    | none => rw [e1] at e; cases e
    | some p =>
      obtain ⟨v1, l1⟩ := p
      rw [e1] at e
      obtain ⟨h1, h2⟩ := ev_mono a ns.tail l v1 l1 e1
      obtain ⟨h3, h4⟩ := evL_mono (ev_mono b) ns.tail _ _ _ _ _ _ e
      refine ⟨by omega, fun k => ?_⟩
      rw [show l + 1 + k = (l + k) + 1 by omega]
      simp only [Tm.ev, h2 k]
      exact h4 k
theorem evs_mono : ∀ (gs : List Tm) (ns : List Nat) (l : Nat) (vs : List Nat) (l' : Nat), Tm.evs gs ns l = some (vs, l') → l' ≤ l ∧ ∀ k, Tm.evs gs ns (l + k) = some (vs, l' + k)
  | [], ns, l, vs, l', e => by
    simp only [Tm.evs] at e
    cases e
    exact ⟨Nat.le_refl _, fun k => by simp only [Tm.evs]⟩
  | g :: gs, ns, l, vs, l', e => by
    simp only [Tm.evs] at e
    cases e1 : g.ev ns l with
    | none => rw [e1] at e; cases e
    | some p =>
      obtain ⟨v1, l1⟩ := p
      rw [e1] at e
      dsimp only at e
      cases e2 : Tm.evs gs ns l1 with
      | none => rw [e2] at e; cases e
      | some q =>
        obtain ⟨vs1, l2⟩ := q
        rw [e2] at e
        cases e
        obtain ⟨h1, h2⟩ := ev_mono g ns l v1 l1 e1
        obtain ⟨h3, h4⟩ := evs_mono gs ns l1 vs1 l' e2
        refine ⟨by omega, fun k => ?_⟩
        simp only [Tm.evs, h2 k, h4 k]
end
theorem evs_len : ∀ (gs : List Tm) (ns : List Nat) (l : Nat) (vs : List Nat) (l' : Nat), Tm.evs gs ns l = some (vs, l') → vs.length = gs.length
  | [], ns, l, vs, l', e => by simp only [Tm.evs] at e; cases e; rfl
  | g :: gs, ns, l, vs, l', e => by
    simp only [Tm.evs] at e
    cases e1 : g.ev ns l with
    | none => rw [e1] at e; cases e
    | some p =>
      obtain ⟨v1, l1⟩ := p
      rw [e1] at e
      dsimp only at e
      cases e2 : Tm.evs gs ns l1 with
      | none => rw [e2] at e; cases e
      | some q =>
        obtain ⟨vs1, l2⟩ := q
        rw [e2] at e
        cases e
        rw [List.length_cons, List.length_cons, evs_len gs ns l1 vs1 l' e2]
theorem getD_le {ns : List Nat} {B : Nat} (h : ∀ x ∈ ns, x ≤ B) (i : Nat) : ns.getD i 0 ≤ B := by
  rw [List.getD_eq_getElem?_getD]
  cases e : ns[i]? with
  | none => simp
  | some x => simpa using h x (List.mem_of_getElem? e)
theorem tail_le {ns : List Nat} {B : Nat} (h : ∀ x ∈ ns, x ≤ B) : ∀ x ∈ ns.tail, x ≤ B := fun x hx => h x (List.mem_of_mem_tail hx)
/-- each step adds one at the most -/
theorem evL_le {f : List Nat → Nat → Option (Nat × Nat)} (hm : ∀ ns l v l', f ns l = some (v, l') → l' < l) (hf : ∀ ns l v l' B, (∀ x ∈ ns, x ≤ B) → f ns l = some (v, l') → v + l' ≤ B + l) (rest : List Nat) (B0 : Nat) (hr : ∀ x ∈ rest, x ≤ B0) :
    ∀ (n i v l v' l' B : Nat), B0 ≤ B → i + n ≤ B → v ≤ B → evL f rest n i v l = some (v', l') → v' + l' ≤ B + l
  | 0, i, v, l, v', l', B, _, _, hv, e => by simp only [evL] at e; cases e; omega
  | n + 1, i, v, l, v', l', B, h0, hi, hv, e => by
    simp only [evL] at e
    cases e1 : f (i :: v :: rest) l with
    | none => rw [e1] at e; cases e
    | some p =>
      obtain ⟨v1, l1⟩ := p
      rw [e1] at e
      have h1 := hf _ _ _ _ B (fun x hx => by
        rcases List.mem_cons.mp hx with rfl | hx
        · omega
        · rcases List.mem_cons.mp hx with rfl | hx
          · exact hv
          · exact Nat.le_trans (hr x hx) h0) e1
      have h2 := hm _ _ _ _ e1
      have := evL_le hm hf rest B0 hr n (i + 1) v1 l1 v' l' (B + (l - l1)) (by omega) (by omega) (by omega) e
      omega
mutual
theorem ev_le : ∀ (t : Tm) (ns : List Nat) (l v l' B : Nat), (∀ x ∈ ns, x ≤ B) → t.ev ns l = some (v, l') → v + l' ≤ B + l
  | t, ns, 0, v, l', B, h, e => by rw [ev_0] at e; cases e
  | .nought _, ns, l + 1, v, l', B, h, e => by simp only [Tm.ev] at e; cases e; omega
  | .next, ns, l + 1, v, l', B, h, e => by
    simp only [Tm.ev] at e
    cases e
    have := getD_le h 0
    omega
  | .place _ i, ns, l + 1, v, l', B, h, e => by
    simp only [Tm.ev] at e
    cases e
    have := getD_le h i
    omega
  | .put f gs, ns, l + 1, v, l', B, h, e => by
    simp only [Tm.ev] at e
    cases e1 : Tm.evs gs ns l with
    | none => rw [e1] at e; cases e
    | some p =>
      obtain ⟨vs, l1⟩ := p
      rw [e1] at e
      have h1 := evs_le gs ns l vs l1 B h e1
      have h2 := (evs_mono gs ns l vs l1 e1).1
      have := ev_le f vs l1 v l' (B + (l - l1)) (fun x hx => by have := h1 x hx; omega) e
      omega
  | .round a b, ns, l + 1, v, l', B, h, e => by
    simp only [Tm.ev] at e
    cases e1 : a.ev ns.tail l with
    | none => rw [e1] at e; cases e
    | some p =>
      obtain ⟨v1, l1⟩ := p
      rw [e1] at e
      have h1 := ev_le a ns.tail l v1 l1 B (tail_le h) e1
      have h2 := (ev_mono a ns.tail l v1 l1 e1).1
      have h3 := getD_le h 0
      have := evL_le (fun ns l v l' e => (ev_mono b ns l v l' e).1) (fun ns l v l' B h e => ev_le b ns l v l' B h e) ns.tail B (tail_le h) (ns.getD 0 0) 0 v1 l1 v l' (B + (l - l1)) (by omega) (by omega) (by omega) e
      omega
theorem evs_le : ∀ (gs : List Tm) (ns : List Nat) (l : Nat) (vs : List Nat) (l' B : Nat), (∀ x ∈ ns, x ≤ B) → Tm.evs gs ns l = some (vs, l') → ∀ x ∈ vs, x + l' ≤ B + l
  | [], ns, l, vs, l', B, h, e => by simp only [Tm.evs] at e; cases e; intro x hx; cases hx
  | g :: gs, ns, l, vs, l', B, h, e => by
    simp only [Tm.evs] at e
    cases e1 : g.ev ns l with
    | none => rw [e1] at e; cases e
    | some p =>
      obtain ⟨v1, l1⟩ := p
      rw [e1] at e
      dsimp only at e
      cases e2 : Tm.evs gs ns l1 with
      | none => rw [e2] at e; cases e
      | some q =>
        obtain ⟨vs1, l2⟩ := q
        rw [e2] at e
        cases e
        have h1 := ev_le g ns l v1 l1 B h e1
        have h2 := (ev_mono g ns l v1 l1 e1).1
        have h3 := (evs_mono gs ns l1 vs1 l' e2).1
        intro x hx
        rcases List.mem_cons.mp hx with rfl | hx
        · omega
        · have := evs_le gs ns l1 vs1 l' B h e2 x hx
          omega
end


/-! Vw: the Reckoner. -/
noncomputable abbrev zRk : Str := ⟨#[82, 101, 99, 107, 111, 110, 101, 114]⟩
noncomputable abbrev zSt : Str := ⟨#[115, 116, 101, 112, 115]⟩
noncomputable abbrev zVa : Str := ⟨#[118, 97, 108, 117, 101]⟩
noncomputable def rOb (s : Int) : Ob := ⟨zRk, [(zSt, .val (.int s))]⟩
noncomputable def oL (l : Nat) : Ob := rOb (20000 - (l : Int))
section
variable {c : Cfg} {d : D} {o : Ob} {r : List (Option W)} {x : Exn} {w : W} {i j : Nat} {s k : Int}
theorem ofF_st : ofF (rOb s) zSt = some (.val (.int s)) := rfl
theorem ofF_va : ofF (rOb s) zVa = none := rfl
theorem putO_st : putO (rOb s) zSt (.val (.int k)) = rOb k := by simp [putO, putW, rOb]
theorem rOb_c : (rOb s).c = zRk := rfl
theorem oL_c {l : Nat} : (oL l).c = zRk := rfl
theorem ofF_oL {l : Nat} : ofF (oL l) zVa = none := rfl
theorem getO_0 : getO ⟨some (.obj o) :: r⟩ 0 = some o := rfl
theorem getO_s {w : Option W} : getO ⟨w :: r⟩ (i + 1) = getO ⟨r⟩ i := rfl
theorem sole_n : soleO i j [] = true := rfl
theorem sole_o : soleO i j (some (.obj o) :: r) = (j == i && soleO i (j + 1) r) := rfl
theorem sole_v : soleO i j (some (.val d) :: r) = soleO i (j + 1) r := rfl
theorem sole_w {l : List D} : soleO i j (some (.own l) :: r) = soleO i (j + 1) r := rfl
theorem sole_0 : soleO i j (none :: r) = soleO i (j + 1) r := rfl
theorem sole_m {x : Option D} : soleO i j (Option.map W.val x :: r) = soleO i (j + 1) r := by cases x <;> rfl
theorem mthR_l : mthR (some (.inl w, o)) i c = .ok w (setS c i (some (.obj o))) := rfl
theorem mthR_r : mthR (some (.inr x, o)) i c = .ex x (setS c i (some (.obj o))) := rfl
theorem finM_v : finM (.ok (.rt (.val d)) ⟨some (.obj o) :: r⟩) = some (.inl (.val d), o) := rfl
theorem finM_w {l : List D} : finM (.ok (.rt (.own l)) ⟨some (.obj o) :: r⟩) = some (.inl (.own l), o) := rfl
theorem finM_n : finM (.ok .nx ⟨some (.obj o) :: r⟩) = some (.inl (.val .none), o) := rfl
theorem finM_x : finM (.ex x ⟨some (.obj o) :: r⟩) = some (.inr x, o) := rfl
theorem finM_i {p : Prop} [Decidable p] {a b : Rs Fl} : finM (if p then a else b) = if p then finM a else finM b := by split <;> rfl
theorem noO_n : noObj [] = true := rfl
theorem noO_v : noObj (some (.val d) :: r) = noObj r := rfl
theorem noO_w {l : List D} : noObj (some (.own l) :: r) = noObj r := rfl
theorem noO_0 : noObj (none :: r) = noObj r := rfl
theorem endC_ok {tg : List Nat} {c0 : Cfg} {ds : List D} : endC c0 tg (.ok ds c) = .ok (.own ds) (restore c0 tg c) := rfl
theorem endC_ex {tg : List Nat} {c0 : Cfg} : endC c0 tg (.ex x c) = .ex x (restore c0 tg c) := rfl
theorem isNo_n {α : Type} : (none : Option α).isNone = true := rfl
theorem callM_eq {tab : Nat → Option Fn} {n f : Nat} {fn : Fn} {ds : List D} (h : tab f = some fn) : (callN tab (n + 1)).m f o ds = runM (callN tab n) fn o ds := by
  show (match tab f with | some fn => runM (callN tab n) fn o ds | none => none) = _
  rw [h]
end
theorem it_rngB (n : Nat) (h : n ≤ big) : itOf .rng [.int n] = some ((List.range' 0 n).map fun x => PyData.int (x : Nat)) := by
  have hb : n ≤ 16777216 := h
  have h1 : small (n : Int) = true := by unfold small; simp; omega
  simp only [itOf, h1, Int.toNat_natCast, h, decide_true, Bool.and_self, if_true]
  unfold rngD
  rw [List.range_eq_range']
  simp
local macro_rules
  | `(tactic| walk_at "w_2") => `(tactic| try simp (config := { decide := true, implicitDefEqProofs := false }) only [↓xs_nil, ↓xs_cons, ↓x_asg, ↓x_unp, ↓x_ifs, ↓x_for, ↓x_whl, ↓x_ret, ↓vi_eq, ↓x_pass, ↓x_brk, ↓x_exp, ↓x_raise, ↓x_raiseP, ↓x_try, ↓x_bad, ↓x_aug, ↓x_app, ↓x_ext, ↓x_inz, ↓x_six, ↓x_sixF, ↓x_augF, ↓x_augxF, ↓x_mk, ↓x_asgL, ↓x_sixL, ↓pe_eq, ↓v_var, ↓t_var, ↓v_con, ↓t_con, ↓v_glo, ↓t_glo, ↓t_tup, ↓t_lst, ↓t_pr, ↓t_chn, ↓t_slc, ↓t_call, ↓t_comp, ↓t_isx, ↓t_fld, ↓t_inD, ↓t_getD, ↓t_keysS, ↓t_compX, ↓t_fldO, ↓t_ixF, ↓t_mth, ↓t_mthN, ↓t_newm, ↓t_callK, ↓t_callD, ↓t_ixL, ↓t_mthL, ↓v_tup, ↓v_lst, ↓v_pr, ↓vs_nil, ↓ps_nil, ↓vs_cons, ↓ps_cons, ↓ts_nil, ↓ts_cons, ↓os_nil, ↓os_cons, ↓v_and, ↓t_and, ↓v_or, ↓t_or, ↓v_not, ↓t_not, ↓v_ite, ↓t_ite, ↓v_chn, ↓c_nil, ↓c_cons, ↓v_slc, ↓v_call, ↓v_callK, ↓v_callD, ↓v_comp, ↓v_compX, ↓v_isx, ↓v_fld, ↓v_inD, ↓v_getD, ↓v_keysS, ↓v_fldO, ↓v_ixF, ↓v_mth, ↓v_mthN, ↓v_newm, ↓v_ixL, ↓v_mthL, ↓xs_disp, ↓xh_nil, ↓xh_cons, ↓run_F, sqR_nx, sqR_rt, sqR_bk, sqR_ct, sqR_ex, sqR_no, sqR_if, asgR_ok, asgR_ex, asgR_no, asgR_if, unpB_s, unpB_n, unpR_ex, unpR_no, unpR_if, unpR_ok, ifR_ok, ifR_ex, ifR_no, ifR_if, forR_ok, forR_ex, forR_no, forR_if, rtR_ok, rtR_ex, rtR_no, rtR_if, retV_o, retV_v, retV_x, retV_b, retV_l, retV_n, retE_s, retE_n, expR_ok, expR_ex, expR_no, expR_if, rsR_ok, rsR_ex, rsR_no, rsR_if, tryH_ok, tryH_ex, tryH_no, tryH_if, pkV_v, pkV_o, pkV_x, pkV_b, pkV_l, pkV_n, pkE_s, pkE_n, varR_o, varR_v, varR_x, varR_b, varR_l, varR_n, vtR_o, vtR_v, vtR_x, vtR_b, vtR_l, vtR_n, tuR_ok, tuR_ex, tuR_no, tuR_if, lsR_ok, lsR_ex, lsR_no, lsR_if, prR_ok, prR_ex, prR_no, prR_if, vdR_ok, vdR_ex, vdR_no, vdR_if, vcR_ok, vcR_ex, vcR_no, vcR_if, pcR_ok, pcR_ex, pcR_no, pcR_if, anV_ok, anV_ex, anV_no, anV_if, orV_ok, orV_ex, orV_no, orV_if, anT_ok, anT_ex, anT_no, anT_if, orT_ok, orT_ex, orT_no, orT_if, noV_ok, noV_ex, noV_no, noV_if, noT_ok, noT_ex, noT_no, noT_if, iteV_ok, iteV_ex, iteV_no, iteV_if, iteT_ok, iteT_ex, iteT_no, iteT_if, chnR_ok, chnR_ex, chnR_no, chnR_if, chB_ok, chB_ex, chB_no, slC_ok, slC_ex, slC_no, slC_if, slB_ok, slB_ex, slB_no, slB_if, slR_ok, slR_ex, slR_no, slR_if, ccR_l, ccR_r, ccR_n, caR_ok, caR_ex, caR_no, caR_if, cdR_ok, cdR_ex, cdR_no, cdR_if, cmR_ok, cmR_ex, cmR_no, cmR_if, cxR_ok, cxR_ex, cxR_no, cxR_if, hcR_n, hcR_s, retOwn, peekR, denTs, denTs, Rs.bind_ok, Rs.bind_ex, Rs.bind_no, Rs.bind_ite, frz_v, frz_o, frz_x, frz_n, frz_i, tr_non, tr_bl, tr_int, tr_lst, tr_tup, tr_x, tr_n, tr_i, opt_s, opt_n, it_ok, it_ex, it_no, bnd_ok, nx_ok, nx_no, getS_0, getS_s, setS_0, setS_s, p_add, p_sub, p_neg, p_lt, p_le, p_gt, p_ge, p_isN, p_ntN, p_isi, p_lenL, p_lenT, p_tupL, p_tupT, p_lstL, p_lstT, p_ixT, p_ixL, p_rev, ev_ii, ev_ss, ev_st, ev_ts, ev_it, ev_ti, ev_is, ev_si, ev_ni, ixD_0, ixD_1, ixD_2, ixD_3, map_s, map_n, chainR, fin_v, fin_o, fin_nx, fin_x, fin_i, savable, List.all_cons, List.all_nil, it_seqT, it_seqL, p_eq, p_ne, p_mul, p_mod, p_fdiv, p_pow, mulOk, Bool.or_true, Bool.true_or, Bool.or_false, Bool.false_or, decide_true, decide_false, dok_i, dok_s, dok_n, dok_t1, dok_t2, dok_t3, ev_tt, ev_ll, ev_nn, ev_cc, ev_nc, ev_cn, bindT, bindU, bindL, List.length_cons, List.length_nil, List.map_cons, List.map_nil, List.cons_append, List.nil_append, List.replicate, List.isEmpty_cons, List.isEmpty_nil, Bool.not_true, Bool.not_false, if_true, if_false, ite_true, ite_false, Bool.false_eq_true, reduceIte, Nat.sub_self, Nat.reduceAdd, Nat.reduceSub, Int.reduceEq, Int.reduceBEq, bne_self_eq_false, Bool.true_and, Bool.false_and, Bool.and_false, Bool.and_true, beq_self_eq_true, nc_add, nc_addl, nc_ladd, nc_mul, nc_mull, nc_lmul, nc_mod, nc_modl, nc_div, nc_divl, nc_sub1, nc_beq, nc_beql, nc_lbeq, nc_lt, nc_ltl, nc_llt, nc_le, nc_lel, nc_lle, nc_ltp, nc_ltlp, nc_lltp, decide_eq_true_eq, Bool.and_eq_true, Bool.or_eq_true, Bool.not_eq_true', decide_eq_false_iff_not, Nat.zero_lt_succ, Nat.add_one_ne_zero, Int.reduceDiv, Int.reduceMod, Int.reduceLT, Int.reduceLE, Int.reduceAdd, Int.reduceSub, Int.reduceMul, Int.reduceNeg, Nat.reduceMod, Nat.reduceDiv, Nat.reduceLT, or_true, true_or, or_false, false_or, and_true, true_and, and_false, false_and, p_addL, p_addT, it_enuL, enu_nil, enu_cons, try_ok, try_ex, try_no, try_if, nx_ex, sx_eq, noExc_c, noExc_n, rx_noX, isN_n, isN_b, isN_i, isN_s, isN_l, isN_t, isN_d, isi_n, isi_b, isi_i, isi_s, isi_t, isi_l, isi_d, isi_dc, isN_dc, e2_nn, e2_nb, e2_ns, e2_nl, e2_nt, e2_bn, e2_bb, e2_bi, e2_bs, e2_bl, e2_bt, e2_in, e2_ib, e2_il, e2_sn, e2_sb, e2_sl, e2_ln, e2_lb, e2_li, e2_ls, e2_lt, e2_tn, e2_tb, e2_tl, ofF_st, ofF_va, putO_st, rOb_c, getO_0, getO_s, sole_n, sole_o, sole_v, sole_w, sole_0, sole_m, mthR_l, mthR_r, finM_v, finM_w, finM_n, finM_x, finM_i, endC_ok, endC_ex, isNo_n, oL_c, ofF_oL, restore, noO_n, noO_v, noO_w, noO_0, denWs, *])
noncomputable def rvR : Option (Nat × Nat) → Option (Sum W Exn × Ob)
  | some (v, l) => some (.inl (.val (.int (v : Nat))), oL l)
  | none => some (.inr ⟨.TooLong, none⟩, rOb 20001)
theorem oL_s (l : Nat) : (20000 : Int) - ((l + 1 : Nat) : Int) + 1 = 20000 - (l : Int) := by omega
section
variable {tab : Nat → Option Fn} (h : tab F_Reckoner_value = some f_Reckoner_value)
include h
theorem rv_0 (n : Nat) (d : D) (L : List D) : (callN tab (n + 1)).m F_Reckoner_value (oL 0) [d, .list L] = some (.inr ⟨.TooLong, none⟩, rOb 20001) := by
  rw [callM_eq h, f_Reckoner_value]
  unfold runM oL
  simp only [g_MOST_STEPS]
  walk_at "w_2"
  rfl
theorem rv_s (n l : Nat) (d : D) (L : List D) : (callN tab (n + 1)).m F_Reckoner_value (oL (l + 1)) [d, .list L] = finM (exSs (callN tab n) b_Reckoner_value_2 ⟨[some (.obj (oL l)), some (.val d), some (.val (.list L)), none, none, none, none]⟩) := by
  rw [callM_eq h, f_Reckoner_value]
  unfold runM oL
  simp only [g_MOST_STEPS]
  have e := oL_s l
  have c : ¬ (20000 : Int) < 20000 - (l : Int) := by omega
  walk_at "w_2"
omit h in
theorem nL_get {ns : List Nat} {i : Nat} (hi : i < ns.length) : ixD (nL ns) (i : Int) = some (.int (ns.getD i 0 : Nat)) := by
  rw [ixD_nat, List.getElem?_map, List.getElem?_eq_getElem hi, List.getD_eq_getElem?_getD, List.getElem?_eq_getElem hi]
  rfl
omit h in
theorem sl_tail {ns : List Nat} : sliceD (.list (nL ns)) (some 1) none = some (.own (nL ns.tail)) := by
  cases ns with
  | nil => rfl
  | cons a r => exact slc_L
omit h in
theorem rv_turn {n : Nat} {a b : Tm} {ns : List Nat} {i v l : Nat} {x5 : Option D} {ro : Sum W Exn × Ob} (hl : ns.length ≤ 10) (e : (callN tab n).m F_Reckoner_value (oL l) [b.d, .list (nL (i :: v :: ns.tail))] = some ro) :
    exSs (callN tab n) b_Reckoner_value_1 (setS ⟨[some (.obj (oL l)), some (.val (.tuple [.str zR, a.d, b.d])), some (.val (.list (nL ns))), some (.val (.str zR)), some (.val (.int (v : Nat))), x5.map W.val, none]⟩ 5 (some (.val (.int (i : Nat))))) =
      (match ro with
      | (.inl w, o) => .ok .nx ⟨[some (.obj o), some (.val (.tuple [.str zR, a.d, b.d])), some (.val (.list (nL ns))), some (.val (.str zR)), some w, some (.val (.int (i : Nat))), none]⟩
      | (.inr x, o) => .ex x ⟨[some (.obj o), some (.val (.tuple [.str zR, a.d, b.d])), some (.val (.list (nL ns))), some (.val (.str zR)), some (.val (.int (v : Nat))), some (.val (.int (i : Nat))), none]⟩) := by
  have st := @sl_tail ns
  have eL : nL (i :: v :: ns.tail) = .int (i : Nat) :: .int (v : Nat) :: nL ns.tail := rfl
  rw [eL] at e
  have hlen : 0 + 1 + 1 + (nL ns.tail).length ≤ big := by simp [big]; omega
  unfold b_Reckoner_value_1
  unfold oL at e ⊢
  obtain ⟨r, o⟩ := ro
  cases r with
  | inl w => walk_at "w_2"
  | inr x => walk_at "w_2"
omit h in
/-- the loop of a round -/
theorem rv_loop {n : Nat} {a b : Tm} {ns : List Nat} {B0 : Nat} (hl : ns.length ≤ 10) (hr : ∀ x ∈ ns.tail, x ≤ B0) (hb : ∀ (ms : List Nat) (l B : Nat), ms.length = ns.length + 1 → (∀ x ∈ ms, x ≤ B) → B + l ≤ 1000000 → (callN tab n).m F_Reckoner_value (oL l) [b.d, .list (nL ms)] = rvR (b.ev ms l)) (h0 : 0 < ns.length) :
    ∀ (k i v l B : Nat) (x5 : Option D), B0 ≤ B → i + k ≤ B → v ≤ B → B + l ≤ 1000000 → 
      match evL b.ev ns.tail k i v l with
        | some (v', l') => ∃ y5 : Option D, forL [5] (exSs (callN tab n) b_Reckoner_value_1) ((List.range' i k).map fun x => PyData.int (x : Nat)) ⟨[some (.obj (oL l)), some (.val (.tuple [.str zR, a.d, b.d])), some (.val (.list (nL ns))), some (.val (.str zR)), some (.val (.int (v : Nat))), x5.map W.val, none]⟩ =
            .ok .nx ⟨[some (.obj (oL l')), some (.val (.tuple [.str zR, a.d, b.d])), some (.val (.list (nL ns))), some (.val (.str zR)), some (.val (.int (v' : Nat))), y5.map W.val, none]⟩
        | none => ∃ r, forL [5] (exSs (callN tab n) b_Reckoner_value_1) ((List.range' i k).map fun x => PyData.int (x : Nat)) ⟨[some (.obj (oL l)), some (.val (.tuple [.str zR, a.d, b.d])), some (.val (.list (nL ns))), some (.val (.str zR)), some (.val (.int (v : Nat))), x5.map W.val, none]⟩ =
            .ex ⟨.TooLong, none⟩ ⟨some (.obj (rOb 20001)) :: r⟩
  | 0, i, v, l, B, x5, _, _, _, _ => ⟨x5, rfl⟩
  | k + 1, i, v, l, B, x5, hB, hi, hv, hl' => by
    have ml : (i :: v :: ns.tail).length = ns.length + 1 := by simp; omega
    have mb : ∀ x ∈ i :: v :: ns.tail, x ≤ B := fun x hx => by
      rcases List.mem_cons.mp hx with rfl | hx
      · omega
      · rcases List.mem_cons.mp hx with rfl | hx
        · exact hv
        · exact Nat.le_trans (hr x hx) hB
    have e := hb (i :: v :: ns.tail) l B ml mb hl'
    rw [List.range'_succ, List.map_cons, for_cons]
    cases ev : b.ev (i :: v :: ns.tail) l with
    | none =>
      rw [ev] at e
      rw [rv_turn (x5 := x5) (a := a) hl e]
      simp only [evL, ev]
      exact ⟨_, rfl⟩
    | some p =>
      obtain ⟨v1, l1⟩ := p
      rw [ev] at e
      rw [rv_turn (x5 := x5) (a := a) hl e]
      have m1 := (ev_mono b _ _ _ _ ev).1
      have m2 := ev_le b _ _ _ _ B mb ev
      have ih := rv_loop (a := a) hl hr hb h0 k (i + 1) v1 l1 (B + (l - l1)) (some (.int (i : Nat))) (by omega) (by omega) (by omega) (by omega)
      simp only [evL, ev]
      exact ih
omit h in
theorem rv_elt {n : Nat} {d g : D} {ns : List Nat} {l : Nat} {x6 : Option D} {ro : Sum W Exn × Ob} (e : (callN tab n).m F_Reckoner_value (oL l) [g, .list (nL ns)] = some ro) :
    frzR ((den (callN tab n) b_Reckoner_value_0).v (setS ⟨[some (.obj (oL l)), some (.val d), some (.val (.list (nL ns))), some (.val (.str zU)), none, none, x6.map W.val]⟩ 6 (some (.val g)))) =
      (match ro with
      | (.inl w, o) => frzR (.ok w ⟨[some (.obj o), some (.val d), some (.val (.list (nL ns))), some (.val (.str zU)), none, none, some (.val g)]⟩)
      | (.inr x, o) => .ex x ⟨[some (.obj o), some (.val d), some (.val (.list (nL ns))), some (.val (.str zU)), none, none, some (.val g)]⟩) := by
  unfold b_Reckoner_value_0
  unfold oL at e ⊢
  obtain ⟨r, o⟩ := ro
  cases r with
  | inl w => walk_at "w_2"
  | inr x => walk_at "w_2"
omit h in
theorem rv_comp {n : Nat} {d : D} {ns : List Nat} {B : Nat} (hB : ∀ x ∈ ns, x ≤ B) : ∀ (gs : List Tm) (l : Nat) (x6 : Option D), (∀ g ∈ gs, ∀ l, B + l ≤ 1000000 → (callN tab n).m F_Reckoner_value (oL l) [g.d, .list (nL ns)] = rvR (g.ev ns l)) → B + l ≤ 1000000 →
    match Tm.evs gs ns l with
      | some (vs, l') => ∃ y6 : Option D, compL [6] (fun c => .ok true c) (fun c => frzR ((den (callN tab n) b_Reckoner_value_0).v c)) (Tm.ds gs) ⟨[some (.obj (oL l)), some (.val d), some (.val (.list (nL ns))), some (.val (.str zU)), none, none, x6.map W.val]⟩ =
          .ok (nL vs) ⟨[some (.obj (oL l')), some (.val d), some (.val (.list (nL ns))), some (.val (.str zU)), none, none, y6.map W.val]⟩
      | none => ∃ y6 : Option D, compL [6] (fun c => .ok true c) (fun c => frzR ((den (callN tab n) b_Reckoner_value_0).v c)) (Tm.ds gs) ⟨[some (.obj (oL l)), some (.val d), some (.val (.list (nL ns))), some (.val (.str zU)), none, none, x6.map W.val]⟩ =
          .ex ⟨.TooLong, none⟩ ⟨[some (.obj (rOb 20001)), some (.val d), some (.val (.list (nL ns))), some (.val (.str zU)), none, none, y6.map W.val]⟩
  | [], l, x6, _, _ => ⟨x6, rfl⟩
  | g :: gs, l, x6, hg, hl => by
    have e := hg g List.mem_cons_self l hl
    simp only [Tm.ds, comp_cons, Rs.bind_ok, if_true, Tm.evs]
    cases ev : g.ev ns l with
    | none =>
      rw [ev] at e
      rw [rv_elt (x6 := x6) (d := d) e]
      exact ⟨some g.d, rfl⟩
    | some p =>
      obtain ⟨v1, l1⟩ := p
      rw [ev] at e
      rw [rv_elt (x6 := x6) (d := d) e]
      have m1 := (ev_mono g _ _ _ _ ev).1
      have ih := rv_comp (d := d) hB gs l1 (some g.d) (fun g' hg' => hg g' (List.mem_cons_of_mem _ hg')) (by omega)
      simp only [frz_v, Rs.bind_ok]
      cases es : Tm.evs gs ns l1 with
      | none =>
        rw [es] at ih
        obtain ⟨y6, ih⟩ := ih
        refine ⟨y6, ?_⟩
        simp only [Option.map_some] at ih
        rw [ih]
        rfl
      | some q =>
        obtain ⟨vs, l2⟩ := q
        rw [es] at ih
        obtain ⟨y6, ih⟩ := ih
        refine ⟨y6, ?_⟩
        simp only [Option.map_some] at ih
        rw [ih]
        rfl
theorem rv_ok : ∀ (n : Nat) (t : Tm) (ns : List Nat) (l B : Nat), t.ar = some ns.length → t.dep + 1 ≤ n → (∀ x ∈ ns, x ≤ B) → B + l ≤ 1000000 → (callN tab n).m F_Reckoner_value (oL l) [t.d, .list (nL ns)] = rvR (t.ev ns l)
  | 0, t, ns, l, B, ha, hn, hB, hl => by omega
  | n + 1, t, ns, 0, B, ha, hn, hB, hl => by rw [rv_0 h, ev_0]; rfl
  | n + 1, t, ns, l + 1, B, ha, hn, hB, hl => by
    have len4 := Tm.ar_le ha
    rw [rv_s h]
    cases t with
    | nought m =>
      simp only [Tm.ev, rvR, Tm.d]
      unfold b_Reckoner_value_2
      walk_at "w_2"
      rfl
    | next =>
      simp only [Tm.ev, rvR, Tm.d]
      have e1 : ns.length = 1 := by simp only [Tm.ar, Option.some.injEq] at ha; omega
      have g0 := nL_get (ns := ns) (i := 0) (by omega)
      have g0 : ixD (nL ns) 0 = _ := g0
      unfold b_Reckoner_value_2
      clear hB ha
      walk_at "w_2"
    | place m i =>
      simp only [Tm.ev, rvR, Tm.d]
      have e1 : i < ns.length := by
        simp only [Tm.ar] at ha
        split at ha
        · cases ha; omega
        · cases ha
      have g0 := nL_get (ns := ns) (i := i) e1
      unfold b_Reckoner_value_2
      clear hB ha
      walk_at "w_2"
    | put f gs =>
      obtain ⟨hf, hne, hg⟩ := put_inv ha
      simp only [Tm.dep] at hn
      have gd : ∀ g ∈ gs, g.dep ≤ Tm.deps gs := fun g hg => by
        clear hf hne ha hn
        rename_i hgs
        clear hgs
        induction gs with
        | nil => cases hg
        | cons x r ih =>
          simp only [Tm.deps]
          rcases List.mem_cons.mp hg with rfl | hg
          · omega
          · have := ih hg; omega
      have cm := rv_comp (tab := tab) (n := n) (d := (Tm.put f gs).d) (ns := ns) hB gs l none (fun g hg' l' hl' => rv_ok n g ns l' B (hg g hg') (by have := gd g hg'; omega) hB hl') (by omega)
      simp only [Tm.ev]
      cases es : Tm.evs gs ns l with
      | none =>
        rw [es] at cm
        obtain ⟨y6, cm⟩ := cm
        simp only [Tm.d, Option.map_none] at cm
        simp only [rvR, Tm.d]
        unfold b_Reckoner_value_2
        clear hB ha hf hg gd hn
        walk_at "w_2"
        skip
      | some p =>
        obtain ⟨vs, l1⟩ := p
        rw [es] at cm
        obtain ⟨y6, cm⟩ := cm
        have ml := (evs_mono gs ns l vs l1 es).1
        have mb := evs_le gs ns l vs l1 B hB es
        have vl := evs_len gs ns l vs l1 es
        have ef := rv_ok n f vs l1 (B + (l - l1)) (by rw [vl]; exact hf) (by omega) (fun x hx => by have := mb x hx; omega) (by omega)
        simp only [Tm.d, Option.map_none] at cm
        simp only [Tm.d]
        unfold b_Reckoner_value_2
        clear hB ha hf hg gd hn mb
        cases ev : f.ev vs l1 with
        | none => 
          rw [ev] at ef
          simp only [rvR] at ef ⊢
          walk_at "w_2"
          skip
        | some q => 
          obtain ⟨v2, l2⟩ := q
          rw [ev] at ef
          simp only [rvR] at ef ⊢
          walk_at "w_2"
          skip
    | round a b =>
      obtain ⟨x, ex, ha', hb', hx⟩ := round_inv ha
      simp only [Tm.dep] at hn
      have h0 : 0 < ns.length := by omega
      have ea := rv_ok n a ns.tail l B (by rw [ha', List.length_tail]; congr 1; omega) (by omega) (tail_le hB) (by omega)
      simp only [Tm.ev]
      have st := @sl_tail ns
      have g0 := nL_get (ns := ns) (i := 0) h0
      have g0 : ixD (nL ns) 0 = _ := g0
      cases e1 : a.ev ns.tail l with
      | none =>
        rw [e1] at ea
        simp only [rvR] at ea ⊢
        simp only [Tm.d]
        unfold b_Reckoner_value_2
        clear hB ha ha' hb' hn
        walk_at "w_2"
        skip
      | some p =>
        obtain ⟨v1, l1⟩ := p
        rw [e1] at ea
        have m1 := (ev_mono a _ _ _ _ e1).1
        have m2 := ev_le a _ _ _ _ B (tail_le hB) e1
        have gB := getD_le hB 0
        have lp := rv_loop (tab := tab) (n := n) (a := a) (b := b) (ns := ns) (B0 := B) (by omega) (tail_le hB) (fun ms l B hm hB hl => rv_ok n b ms l B (by rw [hb', hm]; congr 1; omega) (by omega) hB hl) h0 (ns.getD 0 0) 0 v1 l1 (B + (l - l1)) none (by omega) (by omega) (by omega) (by omega)
        have ir := it_rngB (ns.getD 0 0) (by unfold big; omega)
        generalize ns.getD 0 0 = k0 at *
        simp only [rvR] at ea
        simp only [Tm.d]
        cases e2 : evL b.ev ns.tail k0 0 v1 l1 with
        | none =>
          rw [e2] at lp
          obtain ⟨r, lp⟩ := lp
          simp only [Option.map_none] at lp
          simp only [rvR]
          unfold b_Reckoner_value_2
          clear hB ha ha' hb' hn
          walk_at "w_2"
          skip
        | some q =>
          obtain ⟨v2, l2⟩ := q
          rw [e2] at lp
          obtain ⟨y5, lp⟩ := lp
          simp only [Option.map_none] at lp
          simp only [rvR]
          unfold b_Reckoner_value_2
          clear hB ha ha' hb' hn
          walk_at "w_2"
          skip
end


/-! Vv: value, steps; the law's own values. -/
noncomputable def numOk : D → Bool
  | .int i => decide (0 ≤ i) && decide (i ≤ 999)
  | _ => false
noncomputable def numB (d : D) (m : Nat) : Bool := match d with
  | .list l => decide (l.length = m) && l.all numOk
  | _ => false
theorem numB_nL {ns : List Nat} (h : ∀ x ∈ ns, x ≤ 999) : numB (.list (nL ns)) ns.length = true := by
  simp only [numB, List.length_map, decide_true, Bool.true_and, List.all_eq_true]
  intro d hd
  obtain ⟨x, hx, rfl⟩ := List.mem_map.mp hd
  have := h x hx
  simp only [numOk, Bool.and_eq_true, decide_eq_true_eq]
  omega
theorem ini_rk : iniO zRk ini_Reckoner [] = some (oL 20000) := by
  unfold oL ini_Reckoner
  rfl
theorem ats_n {c : Cfg} : atsD c [] = some [] := rfl
theorem ats_v {c : Cfg} {i : Nat} {r : List (Nat × Bool)} {d : D} {ds : List D} (h1 : getS c i = some (.val d)) (h2 : atsD c r = some ds) : atsD c ((i, false) :: r) = some (d :: ds) := by simp only [atsD, h1, h2, Bool.false_eq_true, if_false]
theorem ats_l {c : Cfg} {i : Nat} {r : List (Nat × Bool)} {l ds : List D} (h1 : getS c i = some (.val (.list l))) (h2 : atsD c r = some ds) : atsD c ((i, true) :: r) = some (.list l :: ds) := by simp only [atsD, h1, h2, if_true]
theorem filt_e {l : List D} {q : D → Bool} : (l.filter fun x => !q x).isEmpty = l.all q := by
  induction l with
  | nil => rfl
  | cons a r ih =>
    rw [List.filter_cons, List.all_cons]
    cases e : q a with
    | true => simp only [Bool.not_true, Bool.false_eq_true, if_false, Bool.true_and]; exact ih
    | false => simp
structure HVl (tab : Nat → Option Fn) : Prop where
  tm : HTm tab
  ar : tab F_arity = some f_arity
  an : tab F_are_numbers = some f_are_numbers
  ln : tab F_look_numbers = some f_look_numbers
  va : tab F_value = some f_value
  rv : tab F_Reckoner_value = some f_Reckoner_value
section
variable {tab : Nat → Option Fn} (h : HVl tab)
include h
theorem within_ok (n : Nat) (d : D) : (callN tab (n + 1)).f F_is_within [d, .int 0, .int 999] = some (.inl (.val (.bool (numOk d)))) := by
  by_cases hd : ∃ i, d = .int i
  · obtain ⟨i, rfl⟩ := hd
    rw [is_within_ok h.tm]; rfl
  · rw [is_within_any h.tm n d 0 999 (fun i e => hd ⟨i, e⟩)]
    cases d <;> first | rfl | exact absurd ⟨_, rfl⟩ hd
theorem are_ok (n m : Nat) (d : D) : (callN tab (n + 2)).f F_are_numbers [d, .int m] = some (.inl (.val (.bool (numB d m)))) := by
  rw [call_eq h.an, f_are_numbers]
  simp only [g_MOST_NUMBER]
  cases d with
  | list l =>
    have wi := within_ok h n
    by_cases hl : l.length = m
    · have e1 : (((l.length : Nat) : Int) == (m : Int)) = true := by rw [hl]; simp
      obtain ⟨c2, e, e2⟩ := comp_if (k := callN tab (n + 1)) (me := b_are_numbers_0) (mc := .not (.call F_is_within (.cons (.var 2) (.cons (.con (.int 0)) (.cons (.glo (⟨#[77, 79, 83, 84, 95, 78, 85, 77, 66, 69, 82]⟩ : Str) (.int 999)) .nil))))) (i := 2) (a := fun x => x) (b := fun x => x) (q := fun x => !numOk x) (gs := l)
        (c := ⟨[some (.val (.list l)), some (.val (.int (m : Nat))), none]⟩) (fun x hx => by walk_at "w_2") (fun x hx _ => by unfold b_are_numbers_0; walk_at "w_2")
      rw [List.map_id' l, List.map_id'] at e
      have e3 := e2 none
      have e4 : restore ⟨[some (.val (.list l)), some (.val (.int (m : Nat))), none]⟩ [2] c2 = ⟨[some (.val (.list l)), some (.val (.int (m : Nat))), none]⟩ := by
        unfold restore restore
        rw [show getS ⟨[some (.val (.list l)), some (.val (.int (m : Nat))), none]⟩ 2 = none from rfl, e3]
        rfl
      have e5 : (l.filter fun x => !numOk x).isEmpty = l.all numOk := filt_e
      generalize hM : (Ex.not (.call F_is_within (.cons (.var 2) (.cons (.con (.int 0)) (.cons (.glo (⟨#[77, 79, 83, 84, 95, 78, 85, 77, 66, 69, 82]⟩ : Str) (.int 999)) .nil))))) = M at e
      generalize hMs : Exs.cons M .nil = Ms at e
      generalize hE : b_are_numbers_0 = E at e
      clear hM hMs hE
      simp only [numB, hl, decide_true, Bool.true_and]
      clear wi e2 e3
      walk_at "w_2"
      rw [Bool.not_not]
    · have e1 : (((l.length : Nat) : Int) == (m : Int)) = false := by simp; omega
      simp only [numB, hl, decide_false, Bool.false_and]
      clear wi
      walk_at "w_2"
  | _ => simp only [numB]; walk_at "w_2"
theorem look_ok {t : Tm} {m : Nat} (g : Fit t m) (n : Nat) (d : D) (hn : 130 ≤ n) : (callN tab (n + 1)).f F_look_numbers [t.d, d] = if numB d m then some (.inl (.val .none)) else some (.inr ⟨.BadNumbers, none⟩) := by
  obtain ⟨n, rfl⟩ : ∃ k, n = k + 2 := ⟨n - 2, by omega⟩
  have ea := arity_good h.tm h.ar g (n + 2) (by have := g.dep; omega)
  have en := are_ok h n m d
  rw [call_eq h.ln, f_look_numbers]
  clear hn
  cases e : numB d m with
  | true => rw [e] at en; clear e; walk_at "w_2"
  | false => rw [e] at en; clear e; walk_at "w_2"
noncomputable def vaR : Option (Nat × Nat) → Option (Sum W Exn)
  | some (v, _) => some (.inl (.val (.int (v : Nat))))
  | none => some (.inr ⟨.TooLong, none⟩)
theorem value_ok {t : Tm} {ns : List Nat} (g : Fit t ns.length) (hb : ∀ x ∈ ns, x ≤ 999) (n : Nat) (hn : 140 ≤ n) : (callN tab n).f F_value [t.d, .list (nL ns)] = vaR (t.ev ns 20000) := by
  obtain ⟨n, rfl⟩ : ∃ k, n = k + 2 := ⟨n - 2, by omega⟩
  have el := look_ok h g n (.list (nL ns)) (by omega)
  rw [numB_nL hb, if_pos rfl] at el
  have er := rv_ok h.rv (n + 1) t ns 20000 999 g.ar (by have := g.dep; omega) hb (by omega)
  have ea : atsD ⟨[some (.val t.d), some (.val (.list (nL ns)))]⟩ [(0, false), (1, true)] = some [t.d, .list (nL ns)] := ats_v rfl (ats_l rfl ats_n)
  have ei := ini_rk
  rw [call_eq h.va, f_value]
  clear hn
  cases ev : t.ev ns 20000 with
  | none =>
    rw [ev] at er
    simp only [rvR] at er
    simp only [vaR]
    clear hb g ev
    walk_at "w_2"
  | some p =>
    obtain ⟨v, l⟩ := p
    rw [ev] at er
    simp only [rvR] at er
    simp only [vaR]
    clear hb g ev
    walk_at "w_2"
theorem value_bad {t : Tm} {m : Nat} (g : Fit t m) {d : D} (hd : numB d m = false) (n : Nat) (hn : 140 ≤ n) : (callN tab n).f F_value [t.d, d] = some (.inr ⟨.BadNumbers, none⟩) := by
  obtain ⟨n, rfl⟩ : ∃ k, n = k + 2 := ⟨n - 2, by omega⟩
  have el := look_ok h g n d (by omega)
  rw [hd, if_neg (by simp)] at el
  rw [call_eq h.va, f_value]
  clear hn hd
  walk_at "w_2"
end
/-! the law's own values -/
section
variable {tab : Nat → Option Fn} (h : tab F__law_value = some f__law_value)
include h
omit h in
omit h in
omit h in
omit h in
omit h in
end


/-! Vd: what a function is worth, however long it takes. -/
noncomputable def vdL (f : List Nat → Nat) (rest : List Nat) : Nat → Nat → Nat → Nat
  | 0, _, v => v
  | k + 1, i, v => vdL f rest k (i + 1) (f (i :: v :: rest))
mutual
noncomputable def Tm.vd : Tm → List Nat → Nat
  | .nought _, _ => 0
  | .next, ns => ns.getD 0 0 + 1
  | .place _ i, ns => ns.getD i 0
  | .put f gs, ns => f.vd (Tm.vds gs ns)
  | .round a b, ns => vdL b.vd ns.tail (ns.getD 0 0) 0 (a.vd ns.tail)
noncomputable def Tm.vds : List Tm → List Nat → List Nat
  | [], _ => []
  | g :: gs, ns => g.vd ns :: Tm.vds gs ns
end
/-- the places in order -/
noncomputable def plcs (m : Nat) : List Tm := (List.range m).map fun i => Tm.place m i
/-! Nb: numbers of a law, what it is told. -/
structure HNb (tab : Nat → Option Fn) : Prop where
  row : HRow tab
  nu : tab F__law_numbers = some f__law_numbers
section
variable {tab : Nat → Option Fn} (h : HNb tab)
include h
end

section
variable {tab : Nat → Option Fn} (h : HVl tab)
include h
end
/-! Sx: functions as texts, the plain side: tx = the text's signs, rd = what is read of signs. -/
mutual
/-- the signs of a function's text -/
noncomputable def Tm.tx : Tm → List Nat
  | .nought m => [48, 47, 48 + m]
  | .next => [43]
  | .place m i => [48 + (i + 1), 47, 48 + m]
  | .put f gs => 40 :: (f.tx ++ (Tm.txs gs ++ [41]))
  | .round a b => 91 :: (a.tx ++ 32 :: (b.tx ++ [93]))
noncomputable def Tm.txs : List Tm → List Nat
  | [] => []
  | g :: gs => 32 :: (g.tx ++ Tm.txs gs)
end
/-- a figure -/
noncomputable def fig (c : Nat) : Option Nat := if 48 ≤ c ∧ c ≤ 57 then some (c - 48) else none
noncomputable abbrev Pz := List Nat → Option (Tm × List Nat)
/-- this sign, and what stands behind it -/
noncomputable def eat (c : Nat) : List Nat → Option (List Nat)
  | d :: r => if d = c then some r else none
  | [] => none
/-- more of them, each behind a blank -/
noncomputable def rdMany (p : Pz) : Nat → List Nat → Option (List Tm × List Nat)
  | 0, _ => none
  | n + 1, l => match eat 32 l with
    | none => some ([], l)
    | some l => match p l with
      | none => none
      | some (t, r) => match rdMany p n r with
        | none => none
        | some (ts, r) => some (t :: ts, r)
noncomputable def rdPut (p : Pz) (l : List Nat) : Option (Tm × List Nat) := match p l with
  | none => none
  | some (f, r) => match rdMany p (r.length + 1) r with
    | none => none
    | some (gs, r) => match eat 41 r with
      | none => none
      | some r => some (.put f gs, r)
noncomputable def rdRnd (p : Pz) (l : List Nat) : Option (Tm × List Nat) := match p l with
  | none => none
  | some (a, r) => match eat 32 r with
    | none => none
    | some r => match p r with
      | none => none
      | some (b, r) => match eat 93 r with
        | none => none
        | some r => some (.round a b, r)
/-- a figure at the front -/
noncomputable def eatF : List Nat → Option (Nat × List Nat)
  | [] => none
  | c :: r => (fig c).map fun k => (k, r)
noncomputable def rdLeaf (l : List Nat) : Option (Tm × List Nat) := match eatF l with
  | none => none
  | some (i, r) => match eat 47 r with
    | none => none
    | some r => match eatF r with
      | none => none
      | some (m, r) => some (if i = 0 then .nought m else .place m (i - 1), r)
/-- the next function, not deeper than is left -/
noncomputable def rd : Nat → Pz
  | 0, _ => none
  | k + 1, l => match eat 43 l with
    | some r => some (.next, r)
    | none => match eat 40 l with
      | some r => rdPut (rd k) r
      | none => match eat 91 l with
        | some r => rdRnd (rd k) r
        | none => rdLeaf l
/-! ### what is written is read -/
mutual
/-- its places are figures -/
noncomputable def Tm.fg : Tm → Prop
  | .nought m => m ≤ 9
  | .next => True
  | .place m i => m ≤ 9 ∧ i ≤ 8
  | .put f gs => f.fg ∧ Tm.fgs gs
  | .round a b => a.fg ∧ b.fg
noncomputable def Tm.fgs : List Tm → Prop
  | [] => True
  | g :: gs => g.fg ∧ Tm.fgs gs
end
/-! Sw: the Taker reads. -/
noncomputable abbrev zTk : Str := ⟨#[84, 97, 107, 101, 114]⟩
noncomputable abbrev zTx : Str := ⟨#[116, 101, 120, 116]⟩
noncomputable abbrev zAt : Str := ⟨#[97, 116]⟩
noncomputable abbrev zSg : Str := ⟨#[115, 105, 103, 110]⟩
noncomputable abbrev zTa : Str := ⟨#[116, 97, 107, 101]⟩
noncomputable abbrev zFi : Str := ⟨#[102, 105, 103, 117, 114, 101]⟩
noncomputable abbrev zTm : Str := ⟨#[116, 101, 114, 109]⟩
noncomputable def tOb (s : Str) (a : Int) : Ob := ⟨zTk, [(zTx, .val (.str s)), (zAt, .val (.int a))]⟩
section
variable {s : Str} {a b : Int}
theorem ofF_tt : ofF (tOb s a) zTx = some (.val (.str s)) := rfl
theorem ofF_ta : ofF (tOb s a) zAt = some (.val (.int a)) := rfl
theorem ofF_ts : ofF (tOb s a) zSg = none := rfl
theorem ofF_tk : ofF (tOb s a) zTa = none := rfl
theorem ofF_tf : ofF (tOb s a) zFi = none := rfl
theorem ofF_tm : ofF (tOb s a) zTm = none := rfl
theorem ofF_tp : ofF (tOb s a) zU = none := rfl
theorem putO_ta : putO (tOb s a) zAt (.val (.int b)) = tOb s b := by simp [putO, putW, tOb]
theorem tOb_c : (tOb s a).c = zTk := rfl
end
local macro_rules
  | `(tactic| walk_at "w_3") => `(tactic| try simp (config := { decide := true, implicitDefEqProofs := false }) only [↓xs_nil, ↓xs_cons, ↓x_asg, ↓x_unp, ↓x_ifs, ↓x_for, ↓x_whl, ↓x_ret, ↓vi_eq, ↓x_pass, ↓x_brk, ↓x_exp, ↓x_raise, ↓x_raiseP, ↓x_try, ↓x_bad, ↓x_aug, ↓x_app, ↓x_ext, ↓x_inz, ↓x_six, ↓x_sixF, ↓x_augF, ↓x_augxF, ↓x_mk, ↓x_asgL, ↓x_sixL, ↓pe_eq, ↓v_var, ↓t_var, ↓v_con, ↓t_con, ↓v_glo, ↓t_glo, ↓t_tup, ↓t_lst, ↓t_pr, ↓t_chn, ↓t_slc, ↓t_call, ↓t_comp, ↓t_isx, ↓t_fld, ↓t_inD, ↓t_getD, ↓t_keysS, ↓t_compX, ↓t_fldO, ↓t_ixF, ↓t_mth, ↓t_mthN, ↓t_newm, ↓t_callK, ↓t_callD, ↓t_ixL, ↓t_mthL, ↓v_tup, ↓v_lst, ↓v_pr, ↓vs_nil, ↓ps_nil, ↓vs_cons, ↓ps_cons, ↓ts_nil, ↓ts_cons, ↓os_nil, ↓os_cons, ↓v_and, ↓t_and, ↓v_or, ↓t_or, ↓v_not, ↓t_not, ↓v_ite, ↓t_ite, ↓v_chn, ↓c_nil, ↓c_cons, ↓v_slc, ↓v_call, ↓v_callK, ↓v_callD, ↓v_comp, ↓v_compX, ↓v_isx, ↓v_fld, ↓v_inD, ↓v_getD, ↓v_keysS, ↓v_fldO, ↓v_ixF, ↓v_mth, ↓v_mthN, ↓v_newm, ↓v_ixL, ↓v_mthL, ↓xs_disp, ↓xh_nil, ↓xh_cons, ↓run_F, sqR_nx, sqR_rt, sqR_bk, sqR_ct, sqR_ex, sqR_no, sqR_if, asgR_ok, asgR_ex, asgR_no, asgR_if, unpB_s, unpB_n, unpR_ex, unpR_no, unpR_if, unpR_ok, ifR_ok, ifR_ex, ifR_no, ifR_if, forR_ok, forR_ex, forR_no, forR_if, rtR_ok, rtR_ex, rtR_no, rtR_if, retV_o, retV_v, retV_x, retV_b, retV_l, retV_n, retE_s, retE_n, expR_ok, expR_ex, expR_no, expR_if, rsR_ok, rsR_ex, rsR_no, rsR_if, tryH_ok, tryH_ex, tryH_no, tryH_if, pkV_v, pkV_o, pkV_x, pkV_b, pkV_l, pkV_n, pkE_s, pkE_n, varR_o, varR_v, varR_x, varR_b, varR_l, varR_n, vtR_o, vtR_v, vtR_x, vtR_b, vtR_l, vtR_n, tuR_ok, tuR_ex, tuR_no, tuR_if, lsR_ok, lsR_ex, lsR_no, lsR_if, prR_ok, prR_ex, prR_no, prR_if, vdR_ok, vdR_ex, vdR_no, vdR_if, vcR_ok, vcR_ex, vcR_no, vcR_if, pcR_ok, pcR_ex, pcR_no, pcR_if, anV_ok, anV_ex, anV_no, anV_if, orV_ok, orV_ex, orV_no, orV_if, anT_ok, anT_ex, anT_no, anT_if, orT_ok, orT_ex, orT_no, orT_if, noV_ok, noV_ex, noV_no, noV_if, noT_ok, noT_ex, noT_no, noT_if, iteV_ok, iteV_ex, iteV_no, iteV_if, iteT_ok, iteT_ex, iteT_no, iteT_if, chnR_ok, chnR_ex, chnR_no, chnR_if, chB_ok, chB_ex, chB_no, slC_ok, slC_ex, slC_no, slC_if, slB_ok, slB_ex, slB_no, slB_if, slR_ok, slR_ex, slR_no, slR_if, ccR_l, ccR_r, ccR_n, caR_ok, caR_ex, caR_no, caR_if, cdR_ok, cdR_ex, cdR_no, cdR_if, cmR_ok, cmR_ex, cmR_no, cmR_if, cxR_ok, cxR_ex, cxR_no, cxR_if, hcR_n, hcR_s, retOwn, peekR, denTs, denTs, Rs.bind_ok, Rs.bind_ex, Rs.bind_no, Rs.bind_ite, frz_v, frz_o, frz_x, frz_n, frz_i, tr_non, tr_bl, tr_int, tr_lst, tr_tup, tr_x, tr_n, tr_i, opt_s, opt_n, it_ok, it_ex, it_no, bnd_ok, nx_ok, nx_no, getS_0, getS_s, setS_0, setS_s, p_add, p_sub, p_neg, p_lt, p_le, p_gt, p_ge, p_isN, p_ntN, p_isi, p_lenL, p_lenT, p_tupL, p_tupT, p_lstL, p_lstT, p_ixT, p_ixL, p_rev, ev_ii, ev_ss, ev_st, ev_ts, ev_it, ev_ti, ev_is, ev_si, ev_ni, ixD_0, ixD_1, ixD_2, ixD_3, map_s, map_n, chainR, fin_v, fin_o, fin_nx, fin_x, fin_i, savable, List.all_cons, List.all_nil, it_seqT, it_seqL, p_eq, p_ne, p_mul, p_mod, p_fdiv, p_pow, mulOk, Bool.or_true, Bool.true_or, Bool.or_false, Bool.false_or, decide_true, decide_false, dok_i, dok_s, dok_n, dok_t1, dok_t2, dok_t3, ev_tt, ev_ll, ev_nn, ev_cc, ev_nc, ev_cn, bindT, bindU, bindL, List.length_cons, List.length_nil, List.map_cons, List.map_nil, List.cons_append, List.nil_append, List.replicate, List.isEmpty_cons, List.isEmpty_nil, Bool.not_true, Bool.not_false, if_true, if_false, ite_true, ite_false, Bool.false_eq_true, reduceIte, Nat.sub_self, Nat.reduceAdd, Nat.reduceSub, Int.reduceEq, Int.reduceBEq, bne_self_eq_false, Bool.true_and, Bool.false_and, Bool.and_false, Bool.and_true, beq_self_eq_true, nc_add, nc_addl, nc_ladd, nc_mul, nc_mull, nc_lmul, nc_mod, nc_modl, nc_div, nc_divl, nc_sub1, nc_beq, nc_beql, nc_lbeq, nc_lt, nc_ltl, nc_llt, nc_le, nc_lel, nc_lle, nc_ltp, nc_ltlp, nc_lltp, decide_eq_true_eq, Bool.and_eq_true, Bool.or_eq_true, Bool.not_eq_true', decide_eq_false_iff_not, Nat.zero_lt_succ, Nat.add_one_ne_zero, Int.reduceDiv, Int.reduceMod, Int.reduceLT, Int.reduceLE, Int.reduceAdd, Int.reduceSub, Int.reduceMul, Int.reduceNeg, Nat.reduceMod, Nat.reduceDiv, Nat.reduceLT, or_true, true_or, or_false, false_or, and_true, true_and, and_false, false_and, p_addL, p_addT, it_enuL, enu_nil, enu_cons, try_ok, try_ex, try_no, try_if, nx_ex, sx_eq, noExc_c, noExc_n, rx_noX, isN_n, isN_b, isN_i, isN_s, isN_l, isN_t, isN_d, isi_n, isi_b, isi_i, isi_s, isi_t, isi_l, isi_d, isi_dc, isN_dc, e2_nn, e2_nb, e2_ns, e2_nl, e2_nt, e2_bn, e2_bb, e2_bi, e2_bs, e2_bl, e2_bt, e2_in, e2_ib, e2_il, e2_sn, e2_sb, e2_sl, e2_ln, e2_lb, e2_li, e2_ls, e2_lt, e2_tn, e2_tb, e2_tl, getO_0, getO_s, sole_n, sole_o, sole_v, sole_w, sole_0, sole_m, mthR_l, mthR_r, finM_v, finM_w, finM_n, finM_x, finM_i, endC_ok, endC_ex, isNo_n, restore, noO_n, noO_v, noO_w, noO_0, denWs, ofF_tt, ofF_ta, ofF_ts, ofF_tk, ofF_tf, ofF_tm, ofF_tp, putO_ta, tOb_c, *])
structure HTk (tab : Nat → Option Fn) : Prop where
  sign : tab F_Taker_sign = some f_Taker_sign
  take : tab F_Taker_take = some f_Taker_take
  figure : tab F_Taker_figure = some f_Taker_figure
  term : tab F_Taker_term = some f_Taker_term
  put : tab F_Taker_put = some f_Taker_put
section
variable {tab : Nat → Option Fn} (h : HTk tab)
include h
omit h in
omit h in
omit h in
omit h in
end


/-! K41: refusals stand apart. -/
structure HK41 (tab : Nat → Option Fn) : Prop where
  cell : tab F__law_cell = some f__law_cell
  ws : HWs tab
  dn : tab F_done = some f_done_k41
  tat : tab F_turned_at = some f_turned_at
  vl : HVl tab
  sign : tab F_Taker_sign = some f_Taker_sign
  part : tab F_part = some f_part
  turned : tab F_turned = some f_turned_k41
  chk : tab F_checked_program = some f_checked_program_k41
  heard : tab F_heard = some f_heard_k41
  made : tab F_made = some f_made
  gat : tab F_gathered = some f_gathered_k41
  sum : tab F_sum_below = some f_sum_below
  rn : tab F_read_next = some f_read_next_k41
  rp : tab F_read_paper = some f_read_paper_k41
  fixed : tab F_fixed = some f_fixed_k41
  back : tab F_Desk_back = some f_Desk_back_k41
  mpap : tab F_many_papers = some f_many_papers
  pin : tab F_papers_in = some f_papers_in
  sh : tab F_shorter = some f_shorter_k41
  ref : tab F__law_refused_by = some f__law_refused_by
  law : tab F_law = some f_law_k41
noncomputable abbrev zDk : Str := ⟨#[68, 101, 115, 107]⟩
noncomputable abbrev zBck : Str := ⟨#[98, 97, 99, 107]⟩
noncomputable abbrev zWds : Str := ⟨#[119, 111, 114, 100, 115]⟩
noncomputable def dOb : Ob := ⟨zDk, [(zWds, .val (.list [])), (⟨#[116, 101, 114, 109, 115]⟩, .opq), (⟨#[114, 111, 119, 115]⟩, .val (.list []))]⟩
theorem ini_dk : iniO zDk ini_Desk [] = some dOb := rfl
theorem ofF_dw : ofF dOb zWds = some (.val (.list [])) := rfl
theorem ofF_db : ofF dOb zBck = none := rfl
noncomputable def mT41 : Tm := .round (.nought 1) (.put (.round (.place 1 0) (.put .next [.place 3 1])) [.place 3 1, .place 3 2])
theorem ev41 : mT41.ev [500, 500] 20000 = none := by decide +kernel
theorem made41 : (⟨#[116, 105, 109, 101, 115]⟩ : Str) ∈ k_MADE ∧ kv_MADE.lookup (⟨#[116, 105, 109, 101, 115]⟩ : Str) = some mT41.d := ⟨by decide +kernel, by rfl⟩
theorem pkP9 {p : P} {es : Exs} {c c1 : Cfg} {k : Call} {x : D} (h : (den k (.pr p es)).v c = .ok (.val x) c1) : peekR (.pr p es) c ((den k (.pr p es)).v c) = .ok x c1 := by
  rw [h]; rfl
section
variable {tab : Nat → Option Fn} (h : HK41 tab)
include h
theorem r0 (n : Nat) (hn : 130 ≤ n) : (callN tab (n + 1)).f F_checked [.tuple []] = some (.inr ⟨.BadTerm, none⟩) := by
  have e : (callN tab n).f F_is_term [.tuple []] = some (.inl (.val (.bool false))) := by
    have := is_term_any h.vl.tm (.tuple []) n (by omega)
    rw [this, tmOf_no (fun t z => by cases t <;> simp [Tm.d] at z)]
  rw [call_eq h.vl.tm.checked, f_checked]
  clear h hn
  walk_at "w_3"
theorem r1 (n : Nat) (hn : 140 ≤ n) : (callN tab n).f F_value [Tm.next.d, .list []] = some (.inr ⟨.BadNumbers, none⟩) :=
  value_bad h.vl (t := .next) (m := 1) ⟨rfl, by decide⟩ rfl n hn
theorem r2 (n : Nat) (hn : 140 ≤ n) : (callN tab n).f F_value [mT41.d, .list [.int 500, .int 500]] = some (.inr ⟨.TooLong, none⟩) := by
  have := value_ok h.vl (t := mT41) (ns := [500, 500]) ⟨by decide +kernel, by decide +kernel⟩ (fun x hx => by simp at hx; omega) n hn
  rw [ev41] at this
  exact this
theorem r2m (n : Nat) : (callN tab (n + 1)).f F_made [.str (⟨#[116, 105, 109, 101, 115]⟩ : Str)] = some (.inl (.val mT41.d)) := by
  obtain ⟨hs, hl⟩ := made41
  have l1 : decide ((⟨#[116, 105, 109, 101, 115]⟩ : Str) ∈ k_MADE) = true := decide_eq_true hs
  generalize (⟨#[116, 105, 109, 101, 115]⟩ : Str) = s at *
  generalize mT41.d = d at *
  rw [call_eq h.made, f_made]
  clear h hs
  walk_at "w_3"
theorem r3 (n : Nat) : (callN tab (n + 2)).f F_heard [.tuple []] = some (.inr ⟨.BadProgram, none⟩) := by
  have e : (callN tab (n + 1)).f F_checked_program [.tuple []] = some (.inr ⟨.BadProgram, none⟩) := by
    rw [call_eq h.chk, f_checked_program_k41]
    clear h
    walk_at "w_3"
  rw [call_eq h.heard, f_heard_k41]
  clear h
  walk_at "w_3"
theorem r4 (n : Nat) : (callN tab (n + 1)).f F_made [.str (⟨#[]⟩ : Str)] = some (.inr ⟨.BadName, some (.str (⟨#[]⟩ : Str))⟩) := by
  have l1 : decide ((⟨#[]⟩ : Str) ∈ k_MADE) = false := by decide +kernel
  generalize (⟨#[]⟩ : Str) = s at *
  rw [call_eq h.made, f_made]
  clear h
  walk_at "w_3"
theorem r5 (n : Nat) (hn : 140 ≤ n) : (callN tab (n + 2)).f F_sum_below [(Tm.nought 0).d] = some (.inr ⟨.TooBig, none⟩) := by
  have e : ∀ P : D, (callN tab (n + 1)).f F_gathered [(Tm.nought 0).d, .int 0, P] = some (.inr ⟨.TooBig, none⟩) := fun P => by
    have ea := arity_good h.vl.tm h.vl.ar (t := .nought 0) (m := 0) ⟨rfl, by decide⟩ n (by simp [Tm.dep]; omega)
    have ea : (callN tab n).f F_arity [(Tm.nought 0).d] = some (.inl (.val (.int 0))) := ea
    rw [call_eq h.gat, f_gathered_k41]
    generalize (Tm.nought 0).d = d at *
    clear h hn
    walk_at "w_3"
  rw [call_eq h.sum, f_sum_below]
  generalize (Tm.nought 0).d = d at *
  clear h hn
  walk_at "w_3"
theorem r6 (n : Nat) : (callN tab (n + 4)).f F_read_paper [.str (⟨#[]⟩ : Str)] = some (.inr ⟨.BadText, none⟩) := by
  have e0 : (callN tab (n + 2)).m F_Taker_sign (tOb (⟨#[]⟩ : Str) 0) [] = some (.inl (.val (.str (⟨#[]⟩ : Str))), tOb (⟨#[]⟩ : Str) 0) := by
    have e : sliceD (.str (⟨#[]⟩ : Str)) (some 0) (some 1) = some (.val (.str (⟨#[]⟩ : Str))) := by kernel_rfl
    rw [callM_eq h.sign, f_Taker_sign]
    unfold runM
    clear h
    walk_at "w_3"
  have e1 : (callN tab (n + 3)).m F_read_next (tOb (⟨#[]⟩ : Str) 0) [.int 60] = some (.inr ⟨.BadText, none⟩, tOb (⟨#[]⟩ : Str) 0) := by
    have q : prim .nin [.str (⟨#[]⟩ : Str), .tuple [.str (⟨#[60]⟩ : Str), .str (⟨#[45]⟩ : Str), .str (⟨#[123]⟩ : Str), .str (⟨#[40]⟩ : Str), .str (⟨#[91]⟩ : Str)]] = some (.val (.bool true)) := by kernel_rfl
    rw [callM_eq h.rn, f_read_next_k41]
    unfold runM
    clear h
    walk_at "w_3"
  have ei : iniO zTk ini_Taker [.val (.str (⟨#[]⟩ : Str))] = some (tOb (⟨#[]⟩ : Str) 0) := rfl
  have fw : ∀ d : D, fwOf (.val d) = some (.val d) := fun d => rfl
  rw [call_eq h.rp, f_read_paper_k41]
  unfold runF
  simp only [g_MOST_DEEP]
  clear h
  walk_at "w_3"
theorem r7 (n : Nat) (hn : 130 ≤ n) : (callN tab (n + 1)).f F_part [Tm.next.d, .tuple [.int 0]] = some (.inr ⟨.BadWay, some (.tuple [.int 0])⟩) := by
  have := part_ok h.ws h.part (t := .next) (m := 1) ⟨rfl, by decide⟩ (.tuple [.int 0]) n hn
  rw [this]
  rfl
theorem r7l (d : D) (n : Nat) (hn : 130 ≤ n) : (callN tab (n + 1)).f F_part [Tm.next.d, .list [d]] = some (.inr ⟨.BadWay, some (.list [d])⟩) :=
  part_ok h.ws h.part (t := .next) (m := 1) ⟨rfl, by decide⟩ (.list [d]) n hn
theorem r8 (n : Nat) (hn : 140 ≤ n) : (callN tab (n + 2)).f F_turned [Tm.next.d, .tuple [], .str (⟨#[119, 104, 111, 108, 101]⟩ : Str)] = some (.inr ⟨.BadTurn, none⟩) := by
  have e1 : (callN tab (n + 1)).f F_part [Tm.next.d, .tuple []] = some (.inl (.val Tm.next.d)) := by
    have := part_ok h.ws h.part (t := .next) (m := 1) ⟨rfl, by decide⟩ (.tuple []) n (by omega)
    rw [this]
    rfl
  have e2 : (callN tab (n + 1)).f F_turned_at [Tm.next.d, .tuple [], .str (⟨#[119, 104, 111, 108, 101]⟩ : Str)] = some (.inl (.val .none)) := by
    obtain ⟨n, rfl⟩ : ∃ j, n = j + 2 := ⟨n - 2, by omega⟩
    have q1 : (callN tab (n + 2)).f F_part_at [Tm.next.d, .tuple []] = some (.inl (.val Tm.next.d)) := by
      have := part_at_ok h.ws .next [] n (by decide)
      rw [this]
      rfl
    have q2 : (callN tab (n + 2)).f F_done [Tm.next.d, .str (⟨#[119, 104, 111, 108, 101]⟩ : Str)] = some (.inl (.val .none)) := by
      rw [call_eq h.dn, f_done_k41]
      simp only [Tm.d]
      clear h hn e1 q1
      walk_at "w_3"
    rw [call_eq h.tat, f_turned_at]
    have ni : prim .isN [Tm.next.d] = some (.val (.bool false)) := rfl
    generalize Tm.next.d = d at *
    clear h hn e1
    walk_at "w_3"
  rw [call_eq h.turned, f_turned_k41]
  generalize Tm.next.d = d at *
  clear h hn
  walk_at "w_3"
theorem r9 (n : Nat) (hn : 140 ≤ n) : (callN tab (n + 1)).f F_fixed [Tm.next.d, .int 1, .int 0] = some (.inr ⟨.BadPlace, none⟩) := by
  have ea : (callN tab n).f F_arity [Tm.next.d] = some (.inl (.val (.int 1))) := arity_good h.vl.tm h.vl.ar (t := .next) (m := 1) ⟨rfl, by decide⟩ n (by simp [Tm.dep]; omega)
  have eb : (callN tab n).f F_is_within [.int 1, .int 0, .int 0] = some (.inl (.val (.bool false))) := by
    have := is_within_ok h.vl.tm (n - 1) 1 0 0
    rw [show n - 1 + 1 = n by omega] at this
    exact this
  rw [call_eq h.fixed, f_fixed_k41]
  generalize Tm.next.d = d at *
  clear h hn
  walk_at "w_3"
theorem r10 (n : Nat) : (callN tab (n + 1)).m F_Desk_back dOb [] = some (.inr ⟨.NoName, none⟩, dOb) := by
  rw [callM_eq h.back, f_Desk_back_k41]
  unfold runM
  have e := ofF_dw
  generalize dOb = o at *
  clear h
  walk_at "w_3"
theorem r11 (n : Nat) (hn : 80 ≤ n) : (callN tab (n + 2)).f F_shorter [.tuple []] = some (.inr ⟨.BadPaper, none⟩) := by
  have e : (callN tab n).f F_many_papers [.tuple [], .int 60] = some (.inl (.val (.int 401))) := many_papers_ok h.mpap 60 (.tuple []) n (by omega)
  have e2 : (callN tab (n + 1)).f F_papers_in [.tuple []] = some (.inr ⟨.BadPaper, none⟩) := by
    rw [call_eq h.pin, f_papers_in]
    simp only [g_MOST_DEEP, g_MOST_PAPERS]
    clear h hn
    walk_at "w_3"
  rw [call_eq h.sh, f_shorter_k41]
  clear h hn
  walk_at "w_3"
/-- what refuses, and its class -/
noncomputable def X41 : Nat → XC
  | 0 => .BadTerm
  | 1 => .BadNumbers
  | 2 => .TooLong
  | 3 => .BadProgram
  | 4 => .BadName
  | 5 => .TooBig
  | 6 => .BadText
  | 7 => .BadWay
  | 8 => .BadTurn
  | 9 => .BadPlace
  | 10 => .NoName
  | _ => .BadPaper
theorem ref41 : ∀ w, w < 12 → ∃ p, (callN tab 204).f F__law_refused_by [.int (w : Nat)] = some (.inr ⟨X41 w, p⟩) := by
  have e0 : (callN tab 203).f F_checked [.tuple []] = _ := r0 h 202 (by omega)
  have e1 : (callN tab 203).f F_value [.tuple [.str (⟨#[110, 101, 120, 116]⟩ : Str)], .list []] = _ := r1 h 203 (by omega)
  have e2 : (callN tab 203).f F_value [mT41.d, .list [.int 500, .int 500]] = _ := r2 h 203 (by omega)
  have e2m : (callN tab 203).f F_made [.str (⟨#[116, 105, 109, 101, 115]⟩ : Str)] = _ := r2m h 202
  have e3 : (callN tab 203).f F_heard [.tuple []] = _ := r3 h 201
  have e4 : (callN tab 203).f F_made [.str (⟨#[]⟩ : Str)] = _ := r4 h 202
  have e5 : (callN tab 203).f F_sum_below [.tuple [.str (⟨#[110, 111, 117, 103, 104, 116]⟩ : Str), .int 0]] = _ := r5 h 201 (by omega)
  have e6 : (callN tab 203).f F_read_paper [.str (⟨#[]⟩ : Str)] = _ := r6 h 199
  have e7 : (callN tab 203).f F_part [.tuple [.str (⟨#[110, 101, 120, 116]⟩ : Str)], .tuple [.int 0]] = _ := r7 h 202 (by omega)
  have e8 : (callN tab 203).f F_turned [.tuple [.str (⟨#[110, 101, 120, 116]⟩ : Str)], .tuple [], .str (⟨#[119, 104, 111, 108, 101]⟩ : Str)] = _ := r8 h 201 (by omega)
  have e9 : (callN tab 203).f F_fixed [.tuple [.str (⟨#[110, 101, 120, 116]⟩ : Str)], .int 1, .int 0] = _ := r9 h 202 (by omega)
  have e10 : (callN tab 203).m F_Desk_back dOb [] = _ := r10 h 202
  have e11 : (callN tab 203).f F_shorter [.tuple []] = _ := r11 h 201 (by omega)
  have ei := ini_dk
  have eb := ofF_db
  have ea : ∀ c : Cfg, atsD c [] = some [] := fun _ => rfl
  have isn : ∀ {α : Type}, (none : Option α).isNone = true := fun {α} => rfl
  generalize mT41.d = dT at *
  generalize dOb = oD at *
  have hcall := fun as : List D => call_eq (n := 203) (ds := as) h.ref
  clear h
  intro w hw
  match w, hw with
  | 0, _ =>
    refine ⟨none, ?_⟩
    have hc := hcall [.int 0]
    show (callN tab 204).f F__law_refused_by [.int 0] = some (.inr ⟨.BadTerm, _⟩)
    rw [hc, f__law_refused_by]
    clear hc hcall
    walk_at "w_3"
  | 1, _ =>
    refine ⟨none, ?_⟩
    have hc := hcall [.int 1]
    show (callN tab 204).f F__law_refused_by [.int 1] = some (.inr ⟨.BadNumbers, _⟩)
    rw [hc, f__law_refused_by]
    clear hc hcall
    walk_at "w_3"
  | 2, _ =>
    refine ⟨none, ?_⟩
    have hc := hcall [.int 2]
    show (callN tab 204).f F__law_refused_by [.int 2] = some (.inr ⟨.TooLong, _⟩)
    rw [hc, f__law_refused_by]
    clear hc hcall
    walk_at "w_3"
  | 3, _ =>
    refine ⟨none, ?_⟩
    have hc := hcall [.int 3]
    show (callN tab 204).f F__law_refused_by [.int 3] = some (.inr ⟨.BadProgram, _⟩)
    rw [hc, f__law_refused_by]
    clear hc hcall
    walk_at "w_3"
  | 4, _ =>
    refine ⟨some (.str (⟨#[]⟩ : Str)), ?_⟩
    have hc := hcall [.int 4]
    show (callN tab 204).f F__law_refused_by [.int 4] = some (.inr ⟨.BadName, _⟩)
    rw [hc, f__law_refused_by]
    clear hc hcall
    walk_at "w_3"
  | 5, _ =>
    refine ⟨none, ?_⟩
    have hc := hcall [.int 5]
    show (callN tab 204).f F__law_refused_by [.int 5] = some (.inr ⟨.TooBig, _⟩)
    rw [hc, f__law_refused_by]
    clear hc hcall
    walk_at "w_3"
  | 6, _ =>
    refine ⟨none, ?_⟩
    have hc := hcall [.int 6]
    show (callN tab 204).f F__law_refused_by [.int 6] = some (.inr ⟨.BadText, _⟩)
    rw [hc, f__law_refused_by]
    clear hc hcall
    walk_at "w_3"
  | 7, _ =>
    refine ⟨some (.tuple [.int 0]), ?_⟩
    have hc := hcall [.int 7]
    show (callN tab 204).f F__law_refused_by [.int 7] = some (.inr ⟨.BadWay, _⟩)
    rw [hc, f__law_refused_by]
    clear hc hcall
    walk_at "w_3"
  | 8, _ =>
    refine ⟨none, ?_⟩
    have hc := hcall [.int 8]
    show (callN tab 204).f F__law_refused_by [.int 8] = some (.inr ⟨.BadTurn, _⟩)
    rw [hc, f__law_refused_by]
    clear hc hcall
    walk_at "w_3"
  | 9, _ =>
    refine ⟨none, ?_⟩
    have hc := hcall [.int 9]
    show (callN tab 204).f F__law_refused_by [.int 9] = some (.inr ⟨.BadPlace, _⟩)
    rw [hc, f__law_refused_by]
    clear hc hcall
    walk_at "w_3"
  | 10, _ =>
    refine ⟨none, ?_⟩
    have hc := hcall [.int 10]
    show (callN tab 204).f F__law_refused_by [.int 10] = some (.inr ⟨.NoName, _⟩)
    rw [hc, f__law_refused_by]
    clear hc hcall
    walk_at "w_3"
  | 11, _ =>
    refine ⟨none, ?_⟩
    have hc := hcall [.int 11]
    show (callN tab 204).f F__law_refused_by [.int 11] = some (.inr ⟨.BadPaper, _⟩)
    rw [hc, f__law_refused_by]
    clear hc hcall
    walk_at "w_3"
  | w + 12, h => omega
omit h in
/-- what is told of a class -/
noncomputable def told41 (X : XC) : List D := [.bool (subX X .BadTerm), .bool (subX X .BadNumbers), .bool (subX X .TooLong), .bool (subX X .BadProgram), .bool (subX X .BadName), .bool (subX X .TooBig), .bool (subX X .BadText), .bool (subX X .BadWay), .bool (subX X .BadTurn), .bool (subX X .BadPlace), .bool (subX X .NoName), .bool (subX X .BadPaper)]
omit h in
theorem told_eq : ∀ w, w < 12 → told41 (X41 w) = (List.range 12).map (fun i => PyData.bool (decide (i = w))) ∧ subX (X41 w) .PaperError = true ∧ subX (X41 w) .ValueError = true
  | 0, _ => ⟨by kernel_rfl, by kernel_rfl, by kernel_rfl⟩
  | 1, _ => ⟨by kernel_rfl, by kernel_rfl, by kernel_rfl⟩
  | 2, _ => ⟨by kernel_rfl, by kernel_rfl, by kernel_rfl⟩
  | 3, _ => ⟨by kernel_rfl, by kernel_rfl, by kernel_rfl⟩
  | 4, _ => ⟨by kernel_rfl, by kernel_rfl, by kernel_rfl⟩
  | 5, _ => ⟨by kernel_rfl, by kernel_rfl, by kernel_rfl⟩
  | 6, _ => ⟨by kernel_rfl, by kernel_rfl, by kernel_rfl⟩
  | 7, _ => ⟨by kernel_rfl, by kernel_rfl, by kernel_rfl⟩
  | 8, _ => ⟨by kernel_rfl, by kernel_rfl, by kernel_rfl⟩
  | 9, _ => ⟨by kernel_rfl, by kernel_rfl, by kernel_rfl⟩
  | 10, _ => ⟨by kernel_rfl, by kernel_rfl, by kernel_rfl⟩
  | 11, _ => ⟨by kernel_rfl, by kernel_rfl, by kernel_rfl⟩
  | w + 12, h => by omega
theorem cell41 (ns : List Int) (n : Nat) : (callN tab (n + 1)).f F__law_cell [.list (iL ns), .int 0] = some (.inl (.val (.int (ns.getD 0 0)))) := by
  rw [call_eq h.cell, f__law_cell]
  have e : ixD (iL ns) (0 : Int) = (ns[0]?).map PyData.int := by rw [show (0 : Int) = ((0 : Nat) : Int) from rfl, ixD_nat, iL_get]
  cases ns with
  | nil => clear e; simp only [iL, List.map_nil]; walk_at "w_3"; rfl
  | cons a r =>
    have h1 : ((0 : Int) < ((iL (a :: r)).length : Int)) := by simp
    have e1 : ixD (iL (a :: r)) (0 : Int) = some (.int a) := by rw [e]; rfl
    have e2 : (a :: r).getD 0 0 = a := rfl
    rw [e2]
    generalize iL (a :: r) = L at *
    clear e e2
    walk_at "w_3"
noncomputable abbrev eC41 : Ex := .comp b_law_k41_0 [6] .rng (.cons (.con (.int 12)) .nil) .nil
theorem k41_ok (ns : List Int) : (callN tab 205).f F_law [.list (iL ns)] = some (.inl (.val (.bool true))) := by
  have ec : (callN tab 204).f F__law_cell [.list (iL ns), .int 0] = _ := cell41 h ns 203
  generalize ns.getD 0 0 = j at *
  obtain ⟨w, hw, ew⟩ : ∃ w : Nat, w < 12 ∧ j % 12 = (w : Int) := ⟨(j % 12).toNat, by omega, by omega⟩
  obtain ⟨p, er⟩ := ref41 h w hw
  have ep : (callN tab 204).f F_part [.tuple [.str (⟨#[110, 101, 120, 116]⟩ : Str)], .list [.int (w : Nat)]] = _ := r7l h (.int (w : Nat)) 203 (by omega)
  obtain ⟨t1, t2, t3⟩ := told_eq w hw
  have q1 : prim .eq [.list [.int (w : Nat)], .list [.int (w : Nat)]] = some (.val (.bool true)) := by
    rw [p_eq, dok_r (by simp [PyData.depth, PyData.depthAll]), if_pos rfl]
    simp [PyData.eqv, PyData.eqvAll]
  have q2 : prim .eq [.list (told41 (X41 w)), .list ((List.range 12).map (fun i => PyData.bool (decide (i = w))))] = some (.val (.bool true)) := by
    rw [t1, p_eq, dok_r (by simp [List.range_succ, PyData.depth, PyData.depthAll]), if_pos rfl]
    simp [List.range_succ, PyData.eqv, PyData.eqvAll]
  have eC : (den (callN tab 204) eC41).v ⟨[some (.val (.list (iL ns))), some (.val (.int (w : Nat))), some (.own (told41 (X41 w))), some (.val (.bool true)), some (.val (.list [.int (w : Nat)])), none, none]⟩ = .ok (.own ((List.range 12).map (fun i => PyData.bool (decide (i = w))))) ⟨[some (.val (.list (iL ns))), some (.val (.int (w : Nat))), some (.own (told41 (X41 w))), some (.val (.bool true)), some (.val (.list [.int (w : Nat)])), none, none]⟩ := by
    refine compV (a := fun x : Nat => PyData.int (x : Nat)) (gs := List.range 12) ?_ rfl rfl ?_
    · have ir : itOf .rng [.int 12] = _ := it_rngN 12 (by omega)
      generalize (List.range 12).map (fun x => PyData.int (x : Nat)) = IT at *
      generalize told41 (X41 w) = TL at *
      clear h ec ew er ep t1 t2 t3 q1 q2
      walk_at "w_3"
    · intro x hx
      generalize told41 (X41 w) = TL at *
      unfold b_law_k41_0
      have hb : PyData.eqv (.int ((x : Nat) : Int)) (.int ((w : Nat) : Int)) = decide (x = w) := by
        simp only [PyData.eqv]
        by_cases c : x = w
        · subst c; simp
        · have : ¬ ((x : Nat) : Int) = ((w : Nat) : Int) := by omega
          simp [c, this]
      clear h ec ew er ep t1 t2 t3 q1 q2 hx
      walk_at "w_3"
  have eL : exS (callN tab 204) (.ret (.and (.var 3) (.and (.pr .eq (.cons (.var 4) (.cons (.lst (.cons (.var 1) .nil)) .nil))) (.pr .eq (.cons (.var 2) (.cons eC41 .nil)))))) ⟨[some (.val (.list (iL ns))), some (.val (.int (w : Nat))), some (.own (told41 (X41 w))), some (.val (.bool true)), some (.val (.list [.int (w : Nat)])), none, none]⟩ = .ok (.rt (.val (.bool true))) ⟨[some (.val (.list (iL ns))), some (.val (.int (w : Nat))), some (.own (told41 (X41 w))), some (.val (.bool true)), some (.val (.list [.int (w : Nat)])), none, none]⟩ := by
    have x2 : (den (callN tab 204) (.pr .eq (.cons (.var 2) (.cons eC41 .nil)))).v ⟨[some (.val (.list (iL ns))), some (.val (.int (w : Nat))), some (.own (told41 (X41 w))), some (.val (.bool true)), some (.val (.list [.int (w : Nat)])), none, none]⟩ = .ok (.val (.bool true)) ⟨[some (.val (.list (iL ns))), some (.val (.int (w : Nat))), some (.own (told41 (X41 w))), some (.val (.bool true)), some (.val (.list [.int (w : Nat)])), none, none]⟩ := by
      refine pr2_v (x := .list (told41 (X41 w))) ?_ (pk_comp eC) q2
      rfl
    generalize Ex.pr .eq (.cons (.var 2) (.cons eC41 .nil)) = E2 at *
    generalize told41 (X41 w) = TL at *
    clear h ec ew er ep t1 t2 t3 q2 eC
    rw [exS, den]
    dsimp only
    have x1 : (den (callN tab 204) (.pr .eq (.cons (.var 4) (.cons (.lst (.cons (.var 1) .nil)) .nil)))).v ⟨[some (.val (.list (iL ns))), some (.val (.int (w : Nat))), some (.own TL), some (.val (.bool true)), some (.val (.list [.int (w : Nat)])), none, none]⟩ = .ok (.val (.bool true)) ⟨[some (.val (.list (iL ns))), some (.val (.int (w : Nat))), some (.own TL), some (.val (.bool true)), some (.val (.list [.int (w : Nat)])), none, none]⟩ := by
      clear x2
      walk_at "w_3"
    have x0 : peekR (.var 3) ⟨[some (.val (.list (iL ns))), some (.val (.int (w : Nat))), some (.own TL), some (.val (.bool true)), some (.val (.list [.int (w : Nat)])), none, none]⟩ ((den (callN tab 204) (.var 3)).v ⟨[some (.val (.list (iL ns))), some (.val (.int (w : Nat))), some (.own TL), some (.val (.bool true)), some (.val (.list [.int (w : Nat)])), none, none]⟩) = .ok (.bool true) ⟨[some (.val (.list (iL ns))), some (.val (.int (w : Nat))), some (.own TL), some (.val (.bool true)), some (.val (.list [.int (w : Nat)])), none, none]⟩ := rfl
    rw [x0, Rs.bind_ok]
    dsimp only
    rw [if_pos rfl, den]
    dsimp only
    have x1' := pkP9 x1
    rw [x1', Rs.bind_ok]
    dsimp only
    rw [if_pos rfl, x2]
    rfl
  generalize hS : (S.ret (.and (.var 3) (.and (.pr .eq (.cons (.var 4) (.cons (.lst (.cons (.var 1) .nil)) .nil))) (.pr .eq (.cons (.var 2) (.cons eC41 .nil)))))) = SR at *
  rw [call_eq h.law, f_law_k41]
  rw [hS]
  unfold told41 at eL
  generalize X41 w = X at *
  generalize iL ns = NS at *
  have t4 : X = .PaperError ∨ X ≠ .ValueError := by simpa [subX] using t2
  simp only [subX, Bool.or_false] at eL
  clear h t1 t2 q1 q2 eC hS
  walk_at "w_3"
end


end Rp
namespace Lk41
open PySem PySem.Spec PyProof.Rows L2 Rp
theorem law_ok (ns : List Int) (h : ns.length ≤ 63) : (callN (tabR Lk41.rs) 205).f F_law [.list (ns.map PyData.int)] = some (.inl (.val (.bool true))) := by
  exact k41_ok (tab := tabR rs) (by repeat' (first | exact rfl | exact Or.inl rfl | exact Or.inr rfl | constructor)) ns
end Lk41
theorem PySem.Challenge.cw_roundproof_k41_refusals_stand_apart_holds : PySem.Challenge.rw_roundproof_k41_refusals_stand_apart.Holds := by
  exact Lk41.holds_of Lk41.law_ok
