import PyProof.Rows.All
import Wide.All
import OpenK.AllK
import Wide.FinOn
import KE.SortData
import KE.DataMinMax
import HandS.ForMost
import HandS.Wide
import HandS.Deep
import HandS.TryOnly
import HandS.Conv
import HandS.Style
import HandS.TupLen
import HandS.IsInst
import HandS.TupSets
import KE.OsSortAny
import HandS.Walk
import HandS.Rev
import HandS.Iter
import HandS.Defaults
import HandS.Words
import HandS.Head0
import HandS.Head1
import HandS.Head2
import HandS.HeadEnd
import HandS.HeadHook1
import HandS.HeadHook2
import HandS.HeadHook4
import HandS.Exc
import HandS.ExcOwn
import HandS.ExcIs
import HandS.WordsExc
import HandS.HotCalls
import KE.DatumOrd
import PySem.Challenge.RW_creasecurve_k02_fractions_reckoned
set_option Elab.async false
set_option linter.all false
set_option maxRecDepth 100000
/-! Pv0: a small language of codes over plain data, and what a code comes to. -/
mutual
def PySem.PyData.noDict : PySem.PyData → Bool
  | .dict _ => false
  | .list xs => PySem.PyData.noDictAll xs
  | .tuple xs => PySem.PyData.noDictAll xs
  | _ => true
def PySem.PyData.noDictAll : List PySem.PyData → Bool
  | [] => true
  | d :: ds => PySem.PyData.noDict d && PySem.PyData.noDictAll ds
end
namespace Pv
open PySem
abbrev D := PyData
/-- how a value stands: z frozen, f fresh, b only looked at -/
inductive Os | z | f | b
  deriving DecidableEq
abbrev Slot := Option (D × Bool)
abbrev Rho := List Slot
inductive Op2 | add | sub | mul | fdiv | mod | pow | shl | band | bor
  deriving DecidableEq
inductive Cm | eq | ne | lt | le | gt | ge | isn | isnn | inn | nin
  deriving DecidableEq
inductive Bi | len | abs | list | sorted | sortedSet | lenSet | maxl | minl | max2 | min2 | int | str | sum | listRev | all | listRange
  deriving DecidableEq
inductive Ty | int | bool | list | tuple | str
  deriving DecidableEq
inductive Tg | nm (i : Nat) | tu (is : List Nat)
  deriving DecidableEq
inductive Ik | seq | range | enum | zip | rev
  deriving DecidableEq
inductive C
  | nil | cons (a b : C)
  | var (i : Nat) | brw (i : Nat) | cst (d : D)
  | bin (o : Op2) (a b : C) | neg (a : C) | not (a : C)
  | cmp (o : Cm) (a b : C) | chain (o p : Cm) (a b c : C)
  | and (a b : C) | or (a b : C) | ite (c a b : C)
  | call (f : Str) (args : C) | bi (f : Bi) (args : C) | isi (t : Ty) (a : C)
  | idx (a i : C) | sl (a lo hi : C)
  | tup (args : C) | lst (args : C)
  | lc (t : Tg) (k : Ik) (it : C) (cond : C) (elt : C)
  | asg (i : Nat) (F : List Nat) (e : C) | unp (is : List Nat) (F : List Nat) (e : C) | par (i j : Nat) (e : C)
  | aug (i : Nat) (e : C)
  | drop (F : List Nat) (e : C) | ret (F : List Nat) (e : C) | retv (i : Nat)
  | iff (F : List Nat) (c t e : C) | for_ (t : Tg) (k : Ik) (F : List Nat) (it body : C) | whl (c body : C)
  | app (i : Nat) (F : List Nat) (e : C) | pop (i : Nat) | clr (i : Nat) | revl (i : Nat) | ins (i : Nat) (F : List Nat) (k e : C) | popk (i : Nat) (k : C)
  | seti (i : Nat) (F : List Nat) (k e : C)
  | brk | pass | never | dnew | dnewI | forc (j i : Nat) (body : C)
  | tryx (is : List Nat) (F : List Nat) (g : Str) (args : C) (n : Nat) (h : C) | hnd (n : Nat) (c : Str) (a b : C)

def lim : Nat := 16000000
def mulOk (i j : Int) : Bool := decide (i.natAbs.log2 + j.natAbs.log2 < 1000000) || (decide (i.natAbs < 2 ^ 64) || decide (j.natAbs < 2 ^ 64))
def divOk (j : Int) : Bool := decide (j ≠ 0) && decide (j.natAbs.log2 < 9000)
def powOk (i j : Int) : Bool := decide (0 ≤ j) && (decide (j ≤ 1000000) && decide (i.natAbs < 2 ^ 64))
def scal : D → Bool
  | .none | .bool _ | .int _ | .str _ => true
  | _ => false
def opI (o : Op2) (i j : Int) : Option D := match o with
  | .add => some (.int (i + j))
  | .sub => some (.int (i - j))
  | .mul => if mulOk i j then some (.int (i * j)) else none
  | .fdiv => if divOk j then some (.int (i.fdiv j)) else none
  | .mod => if j = 0 then none else some (.int (i.fmod j))
  | .pow => if powOk i j then some (.int (i ^ j.toNat)) else none
  | .shl => if powOk i j then some (.int (i * 2 ^ j.toNat)) else none
  | .band => some (.int (Builtin.bitAnd i j))
  | .bor => some (.int (Builtin.bitOr i j))
def asI : D → Option Int
  | .int i => some i
  | _ => none
def asB : D → Option Bool
  | .bool b => some b
  | _ => none
def asS : D → Option Str
  | .str b => some b
  | _ => none
def asL : D → Option (List D)
  | .list b => some b
  | _ => none
def asT : D → Option (List D)
  | .tuple b => some b
  | _ => none
/-- what is unpacked -/
def asTL : D → Option (List D)
  | .tuple b => some b
  | .list b => some b
  | _ => none
/-- an exception of the class c that leaves a def -/
def excD (c : Str) : D := .dict [(.bool false, .str c)]
def excO : D → Option Str
  | .dict [(.bool false, .str c)] => some c
  | _ => none
/-- the script as it is handed in: read alone -/
def scr (ds : List D) : D := .dict [(.none, .list ds)]
def asR : D → Option (List D)
  | .dict [(.none, .list ds)] => some ds
  | _ => none
def intsO : List D → Option (List Int)
  | [] => some []
  | .int i :: r => (intsO r).map (i :: ·)
  | _ => none
/-- tuples of whole numbers -/
def tupI (k : List Int) : D := .tuple (k.map .int)
/-! dicts: their keys are tuples of whole numbers -/
def keyO : D → Option (List Int)
  | .tuple xs => intsO xs
  | _ => none
def asKs : List (D × D) → Option (List (List Int × D))
  | [] => some []
  | (k, d) :: r => (keyO k).bind fun ks => (asKs r).map fun l => (ks, d) :: l
def asK : D → Option (List (List Int × D))
  | .dict ps => asKs ps
  | _ => none
def dkL (l : List (List Int × D)) : List (D × D) := l.map fun p => (tupI p.1, p.2)
def dfind (l : List (List Int × D)) (k : List Int) : Option D := (l.find? fun p => decide (p.1 = k)).map (·.2)
def dhas (l : List (List Int × D)) (k : List Int) : Bool := l.any fun p => decide (p.1 = k)
def dput (l : List (List Int × D)) (k : List Int) (v : D) : List (List Int × D) := if dhas l k = true then l.map (fun p => if p.1 = k then (p.1, v) else p) else l ++ [(k, v)]
/-! dicts keyed by whole numbers: a mark behind the pairs -/
def markI : D × D := (.bool true, .none)
def asDI : List (D × D) → Option (List (Int × D))
  | [(.bool true, .none)] => some []
  | (.int i, d) :: r => (asDI r).map ((i, d) :: ·)
  | _ => none
def dkI : List (Int × D) → List (D × D)
  | [] => [markI]
  | p :: l => (.int p.1, p.2) :: dkI l
theorem asDI_none {ps : List (D × D)} {l : List (List Int × D)} (h : asKs ps = some l) : asDI ps = none := by
  cases ps with
  | nil => rfl
  | cons p r =>
    obtain ⟨k, d⟩ := p
    cases k with
    | tuple xs => rfl
    | _ => cases h
theorem asDI_inv : ∀ {ps : List (D × D)} {l : List (Int × D)}, asDI ps = some l → ps = dkI l := fun {ps} => by
  induction ps with
  | nil => intro l h; cases h
  | cons p r ih =>
    intro l h
    obtain ⟨k, d⟩ := p
    unfold asDI at h
    split at h
    · rename_i e
      cases h
      injection e with e1 e2
      rw [e1, e2]; rfl
    · rename_i e
      injection e with e1 e2
      injection e1 with e3 e4
      subst e2 e3 e4
      obtain ⟨l', h1, rfl⟩ := Option.map_eq_some_iff.mp h
      rw [ih h1]; rfl
    · cases h
theorem asDI_dk : ∀ l : List (Int × D), asDI (dkI l) = some l
  | [] => rfl
  | p :: l => by show (asDI (dkI l)).map _ = _; rw [asDI_dk l]; rfl
def ifind (l : List (Int × D)) (k : Int) : Option D := (l.find? fun p => decide (p.1 = k)).map (·.2)
def ihas (l : List (Int × D)) (k : Int) : Bool := l.any fun p => decide (p.1 = k)
def iput (l : List (Int × D)) (k : Int) (v : D) : List (Int × D) := if ihas l k = true then l.map (fun p => if p.1 = k then (p.1, v) else p) else l ++ [(k, v)]
def catL (o : Op2) (xs ys : List D) : Option (D × Os) := match o with
  | .add => if xs.length + ys.length ≤ lim then some (.list (xs ++ ys), .f) else none
  | _ => none
def repL (o : Op2) (xs : List D) (j : Int) : Option (D × Os) := match o with
  | .mul => if j.natAbs ≤ 1000 ∧ xs.length * j.toNat ≤ lim then some (.list (List.replicate j.toNat xs).flatten, .f) else none
  | _ => none
def catS (o : Op2) (x y : Str) : Option (D × Os) := match o with
  | .add => if x.length + y.length ≤ lim then some (.str (x ++ y), .z) else none
  | _ => none
def catT (o : Op2) (xs ys : List D) : Option (D × Os) := match o with
  | .add => if (!xs.isEmpty && !ys.isEmpty) && decide (xs.length + ys.length ≤ lim) then some (.tuple (xs ++ ys), .z) else none
  | _ => none
def op2 (o : Op2) (a b : D) : Option (D × Os) := match a with
  | .int i => (asI b).bind fun j => (opI o i j).map (·, .z)
  | .list xs => match b with
    | .int j => repL o xs j
    | b => (asL b).bind fun ys => catL o xs ys
  | .str x => (asS b).bind fun y => catS o x y
  | .tuple xs => (asT b).bind fun ys => catT o xs ys
  | _ => none
def eqOk (a b : D) : Bool := SeqAt.shaped a && SeqAt.shaped b
def cmI (o : Cm) (i j : Int) : Option Bool := match o with
  | .lt => some (decide (i < j))
  | .le => some (decide (i ≤ j))
  | .gt => some (decide (j < i))
  | .ge => some (decide (j ≤ i))
  | _ => none
def cmO (o : Cm) (a b : D) : Option Bool := (asI a).bind fun i => (asI b).bind fun j => cmI o i j
def isNone : D → Bool
  | .none => true
  | _ => false
def inO (x y : D) : Option Bool := match y with
  | .list ys => if eqOk x (.list ys) then some (ys.any fun z => PyData.eqv z x) else none
  | .tuple ys => if eqOk x (.tuple ys) then some (ys.any fun z => PyData.eqv z x) else none
  | .str y => (asS x).map fun x => !(Builtin.Str.occurrences y x 0 y.length 1).isEmpty
  | .dict ps => match asDI ps with
    | some l => (asI x).map fun k => ihas l k
    | none => (asKs ps).bind fun l => (keyO x).map fun k => dhas l k
  | _ => none
/-- a dict beside an empty one -/
def eqD (a b : D) : Option Bool := match b with
  | .dict [] => (asK a).map fun l => l.isEmpty
  | _ => none
def cm (o : Cm) (a b : D) : Option Bool := match o with
  | .eq => if eqOk a b then some (PyData.eqv a b) else eqD a b
  | .ne => if eqOk a b then some (!PyData.eqv a b) else none
  | .isn => if isNone b then some (isNone a) else (asB a).bind fun x => (asB b).map fun y => decide (x = y)
  | .isnn => if isNone b then some (!isNone a) else (asB a).bind fun x => (asB b).map fun y => !decide (x = y)
  | .inn => inO a b
  | .nin => (inO a b).map (!·)
  | o => cmO o a b
def idxL (a b : D) : Option D := (asI b).bind fun i => match a with
  | .list xs => L2.atI xs i
  | .tuple xs => L2.atI xs i
  | .str x => if x.length ≤ lim then (L2.atI x.cps.toList i).map fun c => .str ⟨#[c]⟩ else none
  | d => (asR d).bind fun xs => L2.atI xs i
def idxO (a b : D) : Option D := match a with
  | .dict ps => match asR (.dict ps) with
    | some xs => (asI b).bind fun i => L2.atI xs i
    | none => match asDI ps with
      | some l => (asI b).bind fun k => ifind l k
      | none => (asKs ps).bind fun l => (keyO b).bind fun k => dfind l k
  | a => idxL a b
def cutD (xs : List D) (lo hi : Option Int) : List D := (xs.drop (HT.sIx xs.length 0 lo)).take (HT.sIx xs.length xs.length hi - HT.sIx xs.length 0 lo)
def slO (a : D) (lo hi : Option Int) : Option (D × Os) := match a with
  | .list xs => some (.list (cutD xs lo hi), .f)
  | d => (asR d).map fun xs => (.list (cutD xs lo hi), .f)
def isTy (t : Ty) (d : D) : Option Bool := match d with
  | .int _ => some (match t with | .int => true | _ => false)
  | .bool _ => some (match t with | .int => true | .bool => true | _ => false)
  | .list _ => some (match t with | .list => true | _ => false)
  | .tuple _ => some (match t with | .tuple => true | _ => false)
  | .str _ => some (match t with | .str => true | _ => false)
  | .none => some false
  | .dict _ => none
def boolsO : List D → Option (List Bool)
  | [] => some []
  | .bool i :: r => (boolsO r).map (i :: ·)
  | _ => none
def sortOk (ds : List D) : Bool := ((ds.all fun a => ds.all fun b => PySem.W.alike a b) && (ds.all fun a => decide (a.depth ≤ 64))) &&
  ((ds.all fun d => match d with | .tuple (_ :: _) => true | _ => false) || (ds.all fun d => match d with | .none => false | .tuple _ => false | _ => true))
def sortD (ds : List D) : List D := ds.mergeSort (PySem.W.dataLe false id)
def tupsO : List D → Option (List (List Int))
  | [] => some []
  | .tuple xs :: r => (intsO xs).bind fun k => (tupsO r).map (k :: ·)
  | _ => none
def setOk (ks : List (List Int)) : Bool := decide (ks.length < 64) && ks.all fun k => !k.isEmpty
def sortTup (ks : List (List Int)) : List (List Int) := ks.eraseDups.mergeSort fun a b => decide (a ≤ b)
def alikeOk (ds : List D) : Bool := (ds.all fun a => ds.all fun b => PySem.W.alike a b) && (ds.all fun a => decide (a.depth ≤ 64) && !isNone a)
def maxO (ds : List D) : Option D := match ds with
  | [] => none
  | x :: r => if alikeOk (x :: r) then some (PySem.W.maxD x r) else none
def minO (ds : List D) : Option D := match ds with
  | [] => none
  | x :: r => if alikeOk (x :: r) then some (PySem.W.minD x r) else none
def itemsL (a : D) : Option (List D) := match a with
  | .list xs => some xs
  | .tuple xs => some xs
  | d => asR d
def lenO (a : D) : Option Nat := match a with
  | .list xs => some xs.length
  | .tuple xs => some xs.length
  | .str x => if x.length ≤ lim then some x.length else none
  | .dict ps => match asR (.dict ps) with
    | some xs => some xs.length
    | none => match asDI ps with
      | some l => some l.length
      | none => (asKs ps).map (·.length)
  | _ => none
def rngOk (i : Int) : Bool := decide (-(2 ^ 62) ≤ i) && decide (i < 2 ^ 62)
def onL (f : List D → Option (D × Os)) (d : D) : Option (D × Os) := (asL d).bind f
def onI (f : Int → Option (D × Os)) (d : D) : Option (D × Os) := (asI d).bind f
def onIs (f : List Int → Option D) (d : D) : Option (D × Os) := (asL d).bind fun xs => (intsO xs).bind fun ns => (f ns).map (·, .z)
def listO : D → Option (D × Os)
  | .list xs => some (.list xs, .f)
  | .tuple xs => some (.list xs, .f)
  | .dict ps => (asDI ps).map fun l => (.list (l.map fun p => .int p.1), .f)
  | _ => none
def intO : D → Option (D × Os)
  | .int i => some (.int i, .z)
  | .bool b => some (.int (if b then 1 else 0), .z)
  | _ => none
def rangeD (i : Int) (n : Nat) : List D := (List.range n).map fun k => .int (i + (k : Nat))
def sorO (d : D) : Option (D × Os) := match d with
  | .dict ps => (asKs ps).bind fun l => if setOk (l.map (·.1)) then some (.list (((l.map (·.1)).mergeSort fun a b => decide (a ≤ b)).map tupI), .f) else none
  | d => onL (fun xs => if sortOk xs && decide (xs.length ≤ lim) then some (.list (sortD xs), .f) else none) d
def bi1 (f : Bi) (d : D) : Option (D × Os) := match f with
  | .len => (lenO d).map fun (n : Nat) => (.int (n : Int), .z)
  | .abs => onI (fun i => some (.int (if i < 0 then -i else i), .z)) d
  | .list => listO d
  | .sorted => sorO d
  | .maxl => onL (fun xs => (maxO xs).map (·, .z)) d
  | .minl => onL (fun xs => (minO xs).map (·, .z)) d
  | .int => intO d
  | .str => onI (fun i => if i.natAbs.log2 < 1920 then some (.str (toString i : String), .z) else none) d
  | .sum => onIs (fun ns => some (.int ns.sum)) d
  | .sortedSet => onL (fun xs => (tupsO xs).bind fun ks => if setOk ks then some (.list ((sortTup ks).map tupI), .f) else none) d
  | .lenSet => onL (fun xs => (tupsO xs).bind fun ks => if setOk ks then some (.int (ks.eraseDups.length : Nat), .z) else none) d
  | .listRev => onL (fun xs => some (.list xs.reverse, .f)) d
  | .all => onL (fun xs => (boolsO xs).map fun bs => (.bool (bs.all id), .z)) d
  | .listRange => onI (fun i => if decide (i ≤ lim) && rngOk i then some (.list (rangeD 0 i.toNat), .f) else none) d
  | _ => none
def bi2 (f : Bi) (i j : Int) : Option (D × Os) := match f with
  | .max2 => some (.int (if j > i then j else i), .z)
  | .min2 => some (.int (if j < i then j else i), .z)
  | _ => none
def biO (f : Bi) (ds : List D) : Option (D × Os) := match ds with
  | [d] => bi1 f d
  | [a, b] => (asI a).bind fun i => (asI b).bind fun j => bi2 f i j
  | _ => none
/-- the items of what is walked -/
def iter1 (k : Ik) (d : D) : Option (List D) := match k with
  | .seq => itemsL d
  | .range => (asI d).bind fun i => if rngOk i then some (rangeD 0 i.toNat) else none
  | .enum => (asL d).map fun xs => xs.mapIdx fun i x => .tuple [.int (i : Nat), x]
  | .rev => (asL d).map fun xs => xs.reverse
  | .zip => none
def iter2 (k : Ik) (a b : D) : Option (List D) := match k with
  | .zip => (asL a).bind fun xs => (asL b).map fun ys => (xs.zip ys).map fun p => .tuple [p.1, p.2]
  | .range => (asI a).bind fun i => (asI b).bind fun j => if rngOk i && rngOk j then some (rangeD i (j - i).toNat) else none
  | _ => none
/-- whole numbers by steps -/
def rangeC (i c : Int) (n : Nat) : List D := (List.range n).map fun k => .int (i + (k : Nat) * c)
def rngC (i j c : Int) : Bool := decide (c ≠ 0) && (decide (c.natAbs < 1073741824) && (Builtin.Range.small i j c && decide (0 ≤ Builtin.Range.rangeSize i j c)))
def iter3 (k : Ik) (a b c : D) : Option (List D) := match k with
  | .range => (asI a).bind fun i => (asI b).bind fun j => (asI c).bind fun s => if rngC i j s then some (rangeC i s (Builtin.Range.rangeSize i j s).toNat) else none
  | _ => none
def iterO (k : Ik) (ds : List D) : Option (List D) := match ds with
  | [d] => iter1 k d
  | [a, b] => iter2 k a b
  | [a, b, c] => iter3 k a b c
  | _ => none

/-- a value is taken: what is only looked at is not handed on -/
def take (r : D × Os) : Option D := match r.2 with
  | .b => none
  | _ => some r.1
def frzAt (F : List Nat) : Nat → Rho → Rho
  | _, [] => []
  | n, none :: r => none :: frzAt F (n + 1) r
  | n, some (d, o) :: r => some (d, o && !(F.contains n)) :: frzAt F (n + 1) r
def frz (F : List Nat) (ρ : Rho) : Rho := match F with
  | [] => ρ
  | F => frzAt F 0 ρ
mutual
/-- no list, no dict within -/
def flat : D → Bool
  | .list _ => false
  | .dict _ => false
  | .tuple ds => flatAll ds
  | _ => true
def flatAll : List D → Bool
  | [] => true
  | d :: ds => flat d && flatAll ds
end
/-- ρ behind an expression that came to d -/
def aft (F : List Nat) (ρ : Rho) (d : D) : Rho := if flat d then ρ else frz F ρ
/-- a new list with nothing but flat items keeps nothing of what was handed in -/
def keepS (r : D × Os) : Bool := match r with
  | (.list ds, .f) => flatAll ds
  | (d, _) => flat d
def aftR (F : List Nat) (ρ : Rho) (r : D × Os) : Rho := if keepS r then ρ else frz F ρ
def setMany : List Nat → List D → Rho → Option Rho
  | [], [], ρ => some ρ
  | i :: is, d :: ds, ρ => setMany is ds (ρ.set i (some (d, false)))
  | _, _, _ => none
def bindT (t : Tg) (d : D) (ρ : Rho) : Option Rho := match t with
  | .nm i => some (ρ.set i (some (d, false)))
  | .tu is => (asTL d).bind fun ds => setMany is ds ρ
section
variable (Φ : Str → List D → Option (D × Bool))
/-- the turns of a comprehension -/
def lcGo (t : Tg) (cond elt : Rho → Option (D × Os)) (ρ : Rho) : List D → Option (List D)
  | [] => some []
  | d :: ds => do
    let ρ1 ← bindT t d ρ
    let b ← (cond ρ1).bind fun r => asB r.1
    if b then do
      let y ← (elt ρ1).bind take
      let ys ← lcGo t cond elt ρ ds
      some (y :: ys)
    else lcGo t cond elt ρ ds
mutual
def ev : C → Rho → Option (D × Os)
  | .var i, ρ => match ρ[i]? with
    | some (some (d, false)) => some (d, .z)
    | some (some (d, true)) => if scal d then some (d, .z) else none
    | _ => none
  | .brw i, ρ => match ρ[i]? with
    | some (some (d, _)) => some (d, .b)
    | _ => none
  | .cst d, _ => some (d, .z)
  | .dnew, _ => some (.dict [], .f)
  | .dnewI, _ => some (.dict [markI], .f)
  | .bin o a b, ρ => (ev a ρ).bind fun x => (ev b ρ).bind fun y => op2 o x.1 y.1
  | .neg a, ρ => (ev a ρ).bind fun x => (asI x.1).map fun i => (.int (-i), .z)
  | .not a, ρ => (ev a ρ).bind fun x => (asB x.1).map fun i => (.bool (!i), .z)
  | .cmp o a b, ρ => (ev a ρ).bind fun x => (ev b ρ).bind fun y => (cm o x.1 y.1).map fun k => (.bool k, .z)
  | .chain o p a b c, ρ => (ev a ρ).bind fun x => (ev b ρ).bind fun y => (cmO o x.1 y.1).bind fun k =>
      if k then (ev c ρ).bind fun z => (cmO p y.1 z.1).map fun l => (.bool l, .z) else some (.bool false, .z)
  | .and a b, ρ => (ev a ρ).bind fun x => (asB x.1).bind fun k => if k then (ev b ρ).bind fun y => (asB y.1).map fun l => (.bool l, .z) else some (.bool false, .z)
  | .or a b, ρ => (ev a ρ).bind fun x => (asB x.1).bind fun k => if k then some (.bool true, .z) else (ev b ρ).bind fun y => (asB y.1).map fun l => (.bool l, .z)
  | .ite c a b, ρ => (ev c ρ).bind fun x => (asB x.1).bind fun k => if k then ev a ρ else ev b ρ
  | .call f as, ρ => (evs as ρ).bind fun ds => (Φ f ds).map fun r => (r.1, if r.2 then .f else .z)
  | .bi f as, ρ => (evb as ρ).bind fun ds => biO f ds
  | .isi t a, ρ => (ev a ρ).bind fun x => (isTy t x.1).map fun k => (.bool k, .z)
  | .idx a i, ρ => (ev a ρ).bind fun x => (ev i ρ).bind fun y => (idxO x.1 y.1).map (·, .z)
  | .sl a lo hi, ρ => (ev a ρ).bind fun x => (evo lo ρ).bind fun l => (evo hi ρ).bind fun h => slO x.1 l h
  | .tup as, ρ => (evs as ρ).map fun ds => (.tuple ds, .z)
  | .lst as, ρ => (evs as ρ).map fun ds => (.list ds, .f)
  | .lc t k it cond elt, ρ => (evs it ρ).bind fun ds => (iterO k ds).bind fun xs =>
      if xs.length ≤ lim then (lcGo t (fun ρ => ev cond ρ) (fun ρ => ev elt ρ) ρ xs).map fun ys => (.list ys, .f) else none
  | _, _ => none
/-- arguments: values that are handed on -/
def evs : C → Rho → Option (List D)
  | .nil, _ => some []
  | .cons a b, ρ => ((ev a ρ).bind take).bind fun x => (evs b ρ).map (x :: ·)
  | _, _ => none
/-- arguments that are only looked at -/
def evb : C → Rho → Option (List D)
  | .nil, _ => some []
  | .cons a b, ρ => (ev a ρ).bind fun x => (evb b ρ).map (x.1 :: ·)
  | _, _ => none
/-- an end of a slice -/
def evo : C → Rho → Option (Option Int)
  | .nil, _ => some none
  | .cons a _, ρ => (ev a ρ).bind fun x => (asI x.1).map some
  | _, _ => none
end
end

/-! ### statements -/
inductive Out
  | next (ρ : Rho) | brk (ρ : Rho) | ret (d : D) (own : Bool)
def takeO (r : D × Os) : Option (D × Bool) := match r.2 with
  | .z => some (r.1, false)
  | .f => some (r.1, true)
  | .b => none
def whN (c : Rho → Option Bool) (b : Rho → Option Out) : Nat → Rho → Option Out
  | 0, _ => none
  | n + 1, ρ => (c ρ).bind fun k => if k then (b ρ).bind fun o => match o with
      | .next ρ' => whN c b n ρ'
      | .brk ρ' => some (.next ρ')
      | .ret d o => some (.ret d o)
    else some (.next ρ)
open Classical in
noncomputable def wh (c : Rho → Option Bool) (b : Rho → Option Out) (ρ : Rho) : Option Out :=
  if h : ∃ n, (whN c b n ρ).isSome = true then whN c b (Classical.choose h) ρ else none
def forGo (t : D → Rho → Option Rho) (b : Rho → Option Out) : List D → Rho → Option Out
  | [], ρ => some (.next ρ)
  | d :: ds, ρ => (t d ρ).bind fun ρ1 => (b ρ1).bind fun o => match o with
      | .next ρ' => forGo t b ds ρ'
      | .brk ρ' => some (.next ρ')
      | .ret d o => some (.ret d o)
def ownL (ρ : Rho) (i : Nat) : Option (List D) := match ρ[i]? with
  | some (some (.list xs, true)) => some xs
  | _ => none
def intAt (ρ : Rho) (i : Nat) : Option Int := match ρ[i]? with
  | some (some (d, _)) => asI d
  | _ => none
def setL (ρ : Rho) (i : Nat) (xs : List D) : Out := .next (ρ.set i (some (.list xs, true)))
/-- what an owner has, written at a key -/
def putO (ρ : Rho) (i : Nat) (k d : D) : Option Out := match ρ[i]? with
  | some (some (.list xs, true)) => (asI k).bind fun j => (L2.ixN xs.length j).map fun n => setL ρ i (xs.set n d)
  | some (some (.dict ps, true)) => match asDI ps with
    | some l => (asI k).bind fun j => if l.length < lim then some (.next (ρ.set i (some (.dict (dkI (iput l j d)), true)))) else none
    | none => (asKs ps).bind fun l => (keyO k).bind fun ks => if l.length < lim then some (.next (ρ.set i (some (.dict (dkL (dput l ks d)), true)))) else none
  | _ => none
def thenO (o : Option Out) (k : Rho → Option Out) : Option Out := o.bind fun o => match o with
  | .next ρ' => k ρ'
  | .brk ρ' => some (.brk ρ')
  | .ret d w => some (.ret d w)
def excAt (ρ : Rho) (n : Nat) : Option Str := match ρ[n]? with
  | some (some (d, _)) => excO d
  | _ => none
def tryO (is : List Nat) (ρ : Rho) (r : D × Bool) : Rho := match is with
  | [] => ρ
  | i :: _ => ρ.set i (some r)
def hndO (n : Nat) : Out → Option Out
  | .next ρ' => some (.next (ρ'.set n none))
  | .ret d w => some (.ret d w)
  | .brk _ => none
section
variable (Φ : Str → List D → Option (D × Bool))
noncomputable def exec : C → Rho → Option Out
  | .nil, ρ => some (.next ρ)
  | .cons s r, ρ => thenO (exec s ρ) fun ρ' => exec r ρ'
  | .asg i F e, ρ => (ev Φ e (frz F ρ)).bind fun r => (takeO r).map fun p => .next ((aftR F ρ r).set i (some p))
  | .unp is F e, ρ => (ev Φ e (frz F ρ)).bind fun r => (asTL r.1).bind fun ds => (setMany is ds (frz F ρ)).map .next
  | .par i j e, ρ => (evs Φ e ρ).bind fun ds => match ds with
    | [x, y] => some (.next ((ρ.set i (some (x, false))).set j (some (y, false))))
    | _ => none
  | .aug i e, ρ => (intAt ρ i).bind fun a => (ev Φ e ρ).bind fun r => (asI r.1).map fun b => .next (ρ.set i (some (.int (a + b), false)))
  | .drop F e, ρ => (ev Φ e (frz F ρ)).map fun _ => .next ρ
  | .ret F e, ρ => (ev Φ e (frz F ρ)).bind fun r => (takeO r).map fun p => .ret p.1 p.2
  | .retv i, ρ => match ρ[i]? with
    | some (some (d, o)) => some (.ret d o)
    | _ => none
  | .iff F c t e, ρ => (ev Φ c (frz F ρ)).bind fun r => (asB r.1).bind fun k => if k then exec t ρ else exec e ρ
  | .for_ t k F it body, ρ => (evs Φ it (frz F ρ)).bind fun ds => (iterO k ds).bind fun xs => forGo (bindT t) (fun ρ => exec body ρ) xs (frz F ρ)
  | .forc j i body, ρ => match ρ[i]? with
    | some (some (.list xs, true)) => forGo (bindT (.nm j)) (fun ρ => exec body ρ) xs ρ
    | _ => none
  | .whl c body, ρ => wh (fun ρ => (ev Φ c ρ).bind fun r => asB r.1) (fun ρ => exec body ρ) ρ
  | .app i F e, ρ => ((ev Φ e (frz F ρ)).bind take).bind fun d => (ownL (aft F ρ d) i).bind fun xs => if xs.length < lim then some (setL (aft F ρ d) i (xs ++ [d])) else none
  | .pop i, ρ => (ownL ρ i).bind fun xs => if xs.isEmpty then none else some (setL ρ i xs.dropLast)
  | .clr i, ρ => (ownL ρ i).map fun _ => setL ρ i []
  | .revl i, ρ => (ownL ρ i).map fun xs => setL ρ i xs.reverse
  | .seti i F k e, ρ => ((ev Φ e (frz F ρ)).bind take).bind fun d => (ev Φ k (aft F ρ d)).bind fun r => putO (aft F ρ d) i r.1 d
  | .tryx is F g args n h, ρ => (evs Φ args (frz F ρ)).bind fun ds => (Φ g ds).bind fun r => match excO r.1 with
    | some _ => exec h ((frz F ρ).set n (some (r.1, false)))
    | none => some (.next (tryO is (frz F ρ) r))
  | .hnd n c a b, ρ => (excAt ρ n).bind fun x => if x = c then (exec a (ρ.set n none)).bind (hndO n) else exec b ρ
  | .brk, ρ => some (.brk ρ)
  | .pass, ρ => some (.next ρ)
  | _, _ => none
end
/-- a def: how many parameters, how many slots, its body -/
structure Fn where
  np : Nat
  ns : Nat
  body : C
def init (fn : Fn) (args : List D) : Rho := args.map (fun d => some (d, false)) ++ List.replicate (fn.ns - fn.np) none
def outV : Out → Option (D × Bool)
  | .ret d o => some (d, o)
  | .next _ => some (.none, false)
  | .brk _ => none
noncomputable def evF (Φ : Str → List D → Option (D × Bool)) (fn : Fn) (args : List D) : Option (D × Bool) :=
  if args.length = fn.np then (exec Φ fn.body (init fn args)).bind outV else none
noncomputable def look : List (Str × Fn) → Str → List D → Option (D × Bool)
  | [] => fun _ _ => none
  | (g, fn) :: Γ => fun f args => if f = g then evF (look Γ) fn args else look Γ f args

/-! ### while -/
theorem whN_mono {c : Rho → Option Bool} {b : Rho → Option Out} : ∀ {n : Nat} {ρ : Rho} {r : Out}, whN c b n ρ = some r → ∀ m, n ≤ m → whN c b m ρ = some r
  | 0, _, _, h, _, _ => by simp [whN] at h
  | n + 1, ρ, r, h, 0, hm => by omega
  | n + 1, ρ, r, h, m + 1, hm => by
    unfold whN at h ⊢
    cases hc : c ρ with
    | none => rw [hc] at h; simp at h
    | some k =>
      rw [hc] at h
      simp only [Option.bind_some] at h ⊢
      cases k with
      | false => simpa using h
      | true =>
        simp only [if_true] at h ⊢
        cases hb : b ρ with
        | none => rw [hb] at h; simp at h
        | some o =>
          rw [hb] at h
          simp only [Option.bind_some] at h ⊢
          cases o with
          | next ρ' => exact whN_mono h m (by omega)
          | brk ρ' => exact h
          | ret d o => exact h
theorem wh_iff {c : Rho → Option Bool} {b : Rho → Option Out} {ρ : Rho} {r : Out} : wh c b ρ = some r ↔ ∃ n, whN c b n ρ = some r := by
  unfold wh
  constructor
  · intro h
    split at h
    · exact ⟨_, h⟩
    · cases h
  · rintro ⟨n, hn⟩
    have hex : ∃ n, (whN c b n ρ).isSome = true := ⟨n, by rw [hn]; rfl⟩
    rw [dif_pos hex]
    have hs := Classical.choose_spec hex
    obtain ⟨r', hr'⟩ := Option.isSome_iff_exists.mp hs
    have h1 := whN_mono hr' (max (Classical.choose hex) n) (Nat.le_max_left _ _)
    have h2 := whN_mono hn (max (Classical.choose hex) n) (Nat.le_max_right _ _)
    rw [hr', ← h1, h2]
/-- one turn -/
theorem wh_turn {c : Rho → Option Bool} {b : Rho → Option Out} {ρ ρ' : Rho} {r : Out} (hc : c ρ = some true) (hb : b ρ = some (.next ρ')) (h : wh c b ρ' = some r) : wh c b ρ = some r := by
  obtain ⟨n, hn⟩ := wh_iff.mp h
  exact wh_iff.mpr ⟨n + 1, by unfold whN; rw [hc]; simp [hb, hn]⟩
theorem wh_end {c : Rho → Option Bool} {b : Rho → Option Out} {ρ : Rho} (hc : c ρ = some false) : wh c b ρ = some (.next ρ) := wh_iff.mpr ⟨1, by unfold whN; rw [hc]; simp⟩
theorem wh_ret {c : Rho → Option Bool} {b : Rho → Option Out} {ρ : Rho} {d : D} {o : Bool} (hc : c ρ = some true) (hb : b ρ = some (.ret d o)) : wh c b ρ = some (.ret d o) := wh_iff.mpr ⟨1, by unfold whN; rw [hc]; simp [hb]⟩
theorem wh_brk {c : Rho → Option Bool} {b : Rho → Option Out} {ρ ρ' : Rho} (hc : c ρ = some true) (hb : b ρ = some (.brk ρ')) : wh c b ρ = some (.next ρ') := wh_iff.mpr ⟨1, by unfold whN; rw [hc]; simp [hb]⟩
end Pv

set_option Elab.async false
set_option linter.all false
set_option maxRecDepth 100000
namespace Pv
open PySem
abbrev Ph := Str → List D → Option (D × Bool)
def calls : C → List Str
  | .cons a b => calls a ++ calls b
  | .bin _ a b => calls a ++ calls b
  | .neg a => calls a
  | .not a => calls a
  | .cmp _ a b => calls a ++ calls b
  | .chain _ _ a b c => calls a ++ (calls b ++ calls c)
  | .and a b => calls a ++ calls b
  | .or a b => calls a ++ calls b
  | .ite a b c => calls a ++ (calls b ++ calls c)
  | .call f a => f :: calls a
  | .bi _ a => calls a
  | .isi _ a => calls a
  | .idx a b => calls a ++ calls b
  | .sl a b c => calls a ++ (calls b ++ calls c)
  | .tup a => calls a
  | .lst a => calls a
  | .lc _ _ a b c => calls a ++ (calls b ++ calls c)
  | .asg _ _ a => calls a
  | .unp _ _ a => calls a
  | .par _ _ a => calls a
  | .aug _ a => calls a
  | .drop _ a => calls a
  | .ret _ a => calls a
  | .iff _ a b c => calls a ++ (calls b ++ calls c)
  | .for_ _ _ _ a b => calls a ++ calls b
  | .forc _ _ b => calls b
  | .whl a b => calls a ++ calls b
  | .app _ _ a => calls a
  | .ins _ _ a b => calls a ++ calls b
  | .popk _ a => calls a
  | .seti _ _ a b => calls a ++ calls b
  | .tryx _ _ g a _ h => g :: (calls a ++ calls h)
  | .hnd _ _ a b => calls a ++ calls b
  | _ => []
def Agr (Φ Ψ : Ph) (c : C) : Prop := ∀ f ∈ calls c, Φ f = Ψ f
theorem ev_congr (Φ Ψ : Ph) (c : C) : Agr Φ Ψ c → (ev Φ c = ev Ψ c ∧ evs Φ c = evs Ψ c) ∧ (evb Φ c = evb Ψ c ∧ evo Φ c = evo Ψ c) := by
  induction c with
  | cons a b iha ihb =>
    intro h
    have ha := iha fun f hf => h f (List.mem_append_left _ hf)
    have hb := ihb fun f hf => h f (List.mem_append_right _ hf)
    refine ⟨⟨?_, ?_⟩, ?_, ?_⟩ <;> funext ρ <;> simp only [ev, evs, evb, evo, ha.1.1, ha.1.2, ha.2.1, hb.1.2, hb.2.1]
  | bin o a b iha ihb | cmp o a b iha ihb | and a b iha ihb | or a b iha ihb | idx a b iha ihb =>
    intro h
    have ha := iha fun f hf => h f (List.mem_append_left _ hf)
    have hb := ihb fun f hf => h f (List.mem_append_right _ hf)
    refine ⟨⟨?_, ?_⟩, ?_, ?_⟩ <;> funext ρ <;> simp only [ev, evs, evb, evo, ha.1.1, hb.1.1]
  | neg a iha | not a iha | isi t a iha =>
    intro h
    have ha := iha h
    refine ⟨⟨?_, ?_⟩, ?_, ?_⟩ <;> funext ρ <;> simp only [ev, evs, evb, evo, ha.1.1]
  | chain o p a b c iha ihb ihc | ite a b c iha ihb ihc | sl a b c iha ihb ihc =>
    intro h
    have ha := iha fun f hf => h f (List.mem_append_left _ hf)
    have hb := ihb fun f hf => h f (List.mem_append_right _ (List.mem_append_left _ hf))
    have hc := ihc fun f hf => h f (List.mem_append_right _ (List.mem_append_right _ hf))
    refine ⟨⟨?_, ?_⟩, ?_, ?_⟩ <;> funext ρ <;> simp only [ev, evs, evb, evo, ha.1.1, hb.1.1, hc.1.1, hb.2.2, hc.2.2]
  | call f a iha =>
    intro h
    have ha := iha fun g hg => h g (List.mem_cons_of_mem _ hg)
    have hf := h f List.mem_cons_self
    refine ⟨⟨?_, ?_⟩, ?_, ?_⟩ <;> funext ρ <;> simp only [ev, evs, evb, evo, ha.1.2, hf]
  | bi f a iha =>
    intro h
    have ha := iha h
    refine ⟨⟨?_, ?_⟩, ?_, ?_⟩ <;> funext ρ <;> simp only [ev, evs, evb, evo, ha.2.1]
  | tup a iha | lst a iha =>
    intro h
    have ha := iha h
    refine ⟨⟨?_, ?_⟩, ?_, ?_⟩ <;> funext ρ <;> simp only [ev, evs, evb, evo, ha.1.2]
  | lc t k a b c iha ihb ihc =>
    intro h
    have ha := iha fun f hf => h f (List.mem_append_left _ hf)
    have hb := ihb fun f hf => h f (List.mem_append_right _ (List.mem_append_left _ hf))
    have hc := ihc fun f hf => h f (List.mem_append_right _ (List.mem_append_right _ hf))
    refine ⟨⟨?_, ?_⟩, ?_, ?_⟩ <;> funext ρ <;> simp only [ev, evs, evb, evo, ha.1.2, hb.1.1, hc.1.1]
  | _ => intro _; refine ⟨⟨?_, ?_⟩, ?_, ?_⟩ <;> funext ρ <;> simp only [ev, evs, evb, evo]
theorem exec_congr (Φ Ψ : Ph) (c : C) : Agr Φ Ψ c → exec Φ c = exec Ψ c := by
  induction c with
  | cons a b iha ihb =>
    intro h
    have ha := iha fun f hf => h f (List.mem_append_left _ hf)
    have hb := ihb fun f hf => h f (List.mem_append_right _ hf)
    funext ρ; simp only [exec, ha, hb]
  | asg i F a _ | unp i F a _ | aug i a _ | drop F a _ | ret F a _ | app i F a _ =>
    intro h
    have ha := (ev_congr Φ Ψ a h).1.1
    funext ρ; simp only [exec, ha]
  | par i j a _ =>
    intro h
    have ha := (ev_congr Φ Ψ a h).1.2
    funext ρ; simp only [exec, ha]
  | iff F a b c iha ihb ihc =>
    intro h
    have ha := (ev_congr Φ Ψ a fun f hf => h f (List.mem_append_left _ hf)).1.1
    have hb := ihb fun f hf => h f (List.mem_append_right _ (List.mem_append_left _ hf))
    have hc := ihc fun f hf => h f (List.mem_append_right _ (List.mem_append_right _ hf))
    funext ρ; simp only [exec, ha, hb, hc]
  | for_ t k F a b _ ihb =>
    intro h
    have ha := (ev_congr Φ Ψ a fun f hf => h f (List.mem_append_left _ hf)).1.2
    have hb := ihb fun f hf => h f (List.mem_append_right _ hf)
    funext ρ; simp only [exec, ha, hb]
  | forc j i b ihb =>
    intro h
    have hb := ihb h
    funext ρ; simp only [exec, hb]
  | whl a b _ ihb =>
    intro h
    have ha := (ev_congr Φ Ψ a fun f hf => h f (List.mem_append_left _ hf)).1.1
    have hb := ihb fun f hf => h f (List.mem_append_right _ hf)
    funext ρ; simp only [exec, ha, hb]
  | tryx is F g a n b _ ihb =>
    intro h
    have ha := (ev_congr Φ Ψ a fun f hf => h f (List.mem_cons_of_mem _ (List.mem_append_left _ hf))).1.2
    have hb := ihb fun f hf => h f (List.mem_cons_of_mem _ (List.mem_append_right _ hf))
    have hg := h g List.mem_cons_self
    funext ρ; simp only [exec, ha, hb, hg]
  | hnd n c a b iha ihb =>
    intro h
    have ha := iha fun f hf => h f (List.mem_append_left _ hf)
    have hb := ihb fun f hf => h f (List.mem_append_right _ hf)
    funext ρ; simp only [exec, ha, hb]
  | seti i F a b _ _ =>
    intro h
    have ha := (ev_congr Φ Ψ a fun f hf => h f (List.mem_append_left _ hf)).1.1
    have hb := (ev_congr Φ Ψ b fun f hf => h f (List.mem_append_right _ hf)).1.1
    funext ρ; simp only [exec, ha, hb]
  | _ => intro _; funext ρ; simp only [exec]
theorem evF_congr (Φ Ψ : Ph) (fn : Fn) (h : Agr Φ Ψ fn.body) : evF Φ fn = evF Ψ fn := by
  funext args; unfold evF; rw [exec_congr Φ Ψ fn.body h]
/-- Φ does what fn says under the name f -/
def Impl (Φ : Ph) (f : Str) (fn : Fn) : Prop := ∀ args, Φ f args = evF Φ fn args
def names (Γ : List (Str × Fn)) : List Str := Γ.map (·.1)
/-- every def calls defs further down alone, no name twice -/
def tableOk : List (Str × Fn) → Bool
  | [] => true
  | (g, fn) :: Γ => !(names Γ).contains g && ((calls fn.body).all fun f => (names Γ).contains f) && tableOk Γ
theorem look_other {g f : Str} {fn : Fn} {Γ : List (Str × Fn)} (h : f ≠ g) : look ((g, fn) :: Γ) f = look Γ f := by
  funext args; simp only [look, if_neg h]
theorem look_ok : ∀ {Γ : List (Str × Fn)}, tableOk Γ = true → ∀ (Ψ : Ph), (∀ f ∈ names Γ, Ψ f = look Γ f) → ∀ f fn, (f, fn) ∈ Γ → Impl Ψ f fn
  | [], _, _, _, _, _, h => by cases h
  | (g, gn) :: Γ, ok, Ψ, hΨ, f, fn, h => by
    simp only [tableOk, Bool.and_eq_true, Bool.not_eq_true', List.all_eq_true, List.contains_iff_mem] at ok
    obtain ⟨⟨h1, h2⟩, h3⟩ := ok
    have hn : ∀ x ∈ names Γ, x ≠ g := fun x hx e => by
      subst e
      have : (names Γ).contains x = true := List.contains_iff_mem.mpr hx
      rw [h1] at this; cases this
    have hlow : ∀ x ∈ names Γ, Ψ x = look Γ x := fun x hx => by
      rw [hΨ x (List.mem_cons_of_mem _ hx), look_other (hn x hx)]
    rcases List.mem_cons.mp h with e | h
    · cases e
      intro args
      rw [hΨ g (by simp [names])]
      simp only [look, if_pos]
      rw [evF_congr (look Γ) Ψ gn fun x hx => (hlow x (by simpa using h2 x hx)).symm]
    · exact look_ok h3 Ψ hlow f fn h
theorem look_impl {Γ : List (Str × Fn)} (ok : tableOk Γ = true) {f : Str} {fn : Fn} (h : (f, fn) ∈ Γ) : Impl (look Γ) f fn := look_ok ok (look Γ) (fun _ _ => rfl) f fn h
end Pv

set_option Elab.async false
set_option linter.all false
set_option maxRecDepth 100000
/-! Pv1: how plain data stands in the heap. -/
namespace Pv
open PySem L2
/-- a list that is read and never written: known as an object, or of the module -/
def ReadL (K : PySem.W.Frag) (H : Hp) (a : Addr) (xs : List V) : Prop :=
  (∃ o, H a = some (.frz o (.lst xs))) ∨
    ∃ (o : Obj) (its : Array Value) (n : Nat), K.lookup a = some o ∧ o.cls = .type "list" ∧ o.dict = none ∧ o.data = .seq its n ∧ its.size ≤ sizeLine ∧ Vals xs its.toList
theorem ReadL.sq {K : PySem.W.Frag} {H : Hp} {a : Addr} {xs : List V} (h : ReadL K H a xs) : SqL K H a xs := by
  rcases h with ⟨o, e⟩ | e
  · exact .inl (.inr ⟨o, e⟩)
  · exact .inr e
mutual
inductive Rp (K : PySem.W.Frag) (H : Hp) (S : Addr → Prop) : V → D → Prop
  | non : Rp K H S .non .none
  | bl (b : Bool) : Rp K H S (.bl b) (.bool b)
  | int (i : Int) : Rp K H S (.int i) (.int i)
  | str (x : Str) : Rp K H S (.str x) (.str x)
  | cont {a : Addr} {d : D} : S a → Ct K H S a d → Rp K H S (.ref a) d
  | read {a : Addr} {xs : List V} {ns : List Int} : ReadL K H a xs → xs = ns.map V.int → Rp K H S (.ref a) (scr (ns.map .int))
  | tup {a : Addr} {xs : List V} {ds : List D} : H a = some (.tup xs) → RpAll K H S xs ds → Rp K H S (.ref a) (.tuple ds)
/-- what stands in a list (a dict) that may be written by its owner -/
inductive Ct (K : PySem.W.Frag) (H : Hp) (S : Addr → Prop) : Addr → D → Prop
  | lst {a : Addr} {xs : List V} {ds : List D} : H a = some (.lst xs) → RpAll K H S xs ds → Ct K H S a (.list ds)
  | dct {a : Addr} {kvs : List (List Key × V)} {ps : List (D × D)} : H a = some (.dT kvs) → RpK K H S kvs ps → Ct K H S a (.dict ps)
  | dci {a : Addr} {kvs : List (Key × V)} {ps : List (D × D)} : H a = some (.dK kvs) → RpI K H S kvs ps → Ct K H S a (.dict ps)
/-- a dict's pairs: its keys are tuples of whole numbers -/
inductive RpK (K : PySem.W.Frag) (H : Hp) (S : Addr → Prop) : List (List Key × V) → List (D × D) → Prop
  | nil : RpK K H S [] []
  | cons {k : List Int} {v : V} {d : D} {kvs : List (List Key × V)} {ps : List (D × D)} : Rp K H S v d → RpK K H S kvs ps → RpK K H S ((k.map Sum.inl, v) :: kvs) ((tupI k, d) :: ps)
/-- the same, keyed by whole numbers -/
inductive RpI (K : PySem.W.Frag) (H : Hp) (S : Addr → Prop) : List (Key × V) → List (D × D) → Prop
  | nil : RpI K H S [] [markI]
  | cons {i : Int} {v : V} {d : D} {kvs : List (Key × V)} {ps : List (D × D)} : Rp K H S v d → RpI K H S kvs ps → RpI K H S ((Sum.inl i, v) :: kvs) ((.int i, d) :: ps)
inductive RpAll (K : PySem.W.Frag) (H : Hp) (S : Addr → Prop) : List V → List D → Prop
  | nil : RpAll K H S [] []
  | cons {v : V} {vs : List V} {d : D} {ds : List D} : Rp K H S v d → RpAll K H S vs ds → RpAll K H S (v :: vs) (d :: ds)
end
abbrev Ad := Addr → Prop
/-- what is kept: the frozen objects, and all that is never written -/
structure Kp (H : Hp) (S : Ad) (H' : Hp) (S' : Ad) : Prop where
  sub : ∀ a, S a → S' a
  obj : ∀ a o, S a → H a = some o → H' a = some o
  nmu : ∀ a o, H a = some o → ¬ Mut (some o) → H' a = some o
theorem Kp.readL {K : PySem.W.Frag} {H H' : Hp} {S S' : Ad} {a : Addr} {xs : List V} (k : Kp H S H' S') (h : ReadL K H a xs) : ReadL K H' a xs := by
  rcases h with ⟨o, h⟩ | h
  · exact .inl ⟨o, k.nmu _ _ h fun z => z⟩
  · exact .inr h
theorem Kp.tup {H H' : Hp} {S S' : Ad} {a : Addr} {xs : List V} (k : Kp H S H' S') (h : H a = some (.tup xs)) : H' a = some (.tup xs) := k.nmu _ _ h fun z => z
theorem Kp.sqT {K : PySem.W.Frag} {H H' : Hp} {S S' : Ad} {a : Addr} {xs : List V} (k : Kp H S H' S') (h : SqT K H a xs) : SqT K H' a xs := by
  rcases h with (h | ⟨o, h⟩) | h
  · exact .inl (.inl (k.nmu _ _ h fun z => z))
  · exact .inl (.inr ⟨o, k.nmu _ _ h fun z => z⟩)
  · exact .inr h
section
variable {K : PySem.W.Frag} {H H' : Hp} {S S' : Ad}
mutual
theorem Rp.keep (k : Kp H S H' S') : ∀ (d : D) (v : V), Rp K H S v d → Rp K H' S' v d
  | .none, _, h => by cases h with
    | non => exact .non
    | cont _ c => cases c
  | .bool b, _, h => by cases h with
    | bl => exact .bl b
    | cont _ c => cases c
  | .int i, _, h => by cases h with
    | int => exact .int i
    | cont _ c => cases c
  | .str x, _, h => by cases h with
    | str => exact .str x
    | cont _ c => cases c
  | .list ds, _, h => by cases h with
    | cont s c => cases c with
      | lst e r => exact .cont (k.sub _ s) (.lst (k.obj _ _ s e) (RpAll.keep k ds _ r))
  | .tuple ds, _, h => by cases h with
    | cont _ c => cases c
    | tup e r => exact .tup (k.tup e) (RpAll.keep k ds _ r)
  | .dict ps, _, h => by cases h with
    | cont s c => cases c with
      | dct e r => exact .cont (k.sub _ s) (.dct (k.obj _ _ s e) (RpK.keep k ps _ r))
      | dci e r => exact .cont (k.sub _ s) (.dci (k.obj _ _ s e) (RpI.keep k ps _ r))
    | read e r => exact .read (k.readL e) r
theorem RpAll.keep (k : Kp H S H' S') : ∀ (ds : List D) (vs : List V), RpAll K H S vs ds → RpAll K H' S' vs ds
  | [], _, h => by cases h; exact .nil
  | d :: ds, _, h => by cases h with
    | cons h1 h2 => exact .cons (Rp.keep k d _ h1) (RpAll.keep k ds _ h2)
theorem RpK.keep (k : Kp H S H' S') : ∀ (ps : List (D × D)) (kvs : List (List Key × V)), RpK K H S kvs ps → RpK K H' S' kvs ps
  | [], _, h => by cases h; exact .nil
  | (x, d) :: ps, _, h => by cases h with
    | cons h1 h2 => exact .cons (Rp.keep k d _ h1) (RpK.keep k ps _ h2)
theorem RpI.keep (k : Kp H S H' S') : ∀ (ps : List (D × D)) (kvs : List (Key × V)), RpI K H S kvs ps → RpI K H' S' kvs ps
  | [], _, h => nomatch h
  | (x, d) :: ps, _, h => by cases h with
    | nil => exact .nil
    | cons h1 h2 => exact .cons (Rp.keep k d _ h1) (RpI.keep k ps _ h2)
end
theorem Ct.keep {a : Addr} {d : D} (k : Kp H S H' S') (ha : ∀ o, H a = some o → H' a = some o) (c : Ct K H S a d) : Ct K H' S' a d := by
  cases c with
  | lst e r => exact .lst (ha _ e) (r.keep k _ _)
  | dct e r => exact .dct (ha _ e) (r.keep k _ _)
  | dci e r => exact .dci (ha _ e) (r.keep k _ _)
theorem RpAll.length : ∀ {vs : List V} {ds : List D}, RpAll K H S vs ds → vs.length = ds.length
  | _, _, .nil => rfl
  | _, _, .cons _ t => by simp [RpAll.length t]
theorem RpAll.append : ∀ {vs ws : List V} {ds es : List D}, RpAll K H S vs ds → RpAll K H S ws es → RpAll K H S (vs ++ ws) (ds ++ es)
  | _, _, _, _, .nil, s => s
  | _, _, _, _, .cons r t, s => .cons r (RpAll.append t s)
theorem RpAll.get : ∀ {vs : List V} {ds : List D} {i : Nat} {d : D}, RpAll K H S vs ds → ds[i]? = some d → ∃ v, vs[i]? = some v ∧ Rp K H S v d
  | _, _, _, _, .nil, e => by simp at e
  | _, _, 0, _, .cons r _, e => by simp at e; subst e; exact ⟨_, rfl, r⟩
  | _, _, i + 1, d, .cons _ t, e => by
    obtain ⟨v, h1, h2⟩ := RpAll.get (i := i) (d := d) t (by simpa using e)
    exact ⟨v, by simpa using h1, h2⟩
theorem RpAll.getV : ∀ {vs : List V} {ds : List D} {i : Nat} {v : V}, RpAll K H S vs ds → vs[i]? = some v → ∃ d, ds[i]? = some d ∧ Rp K H S v d
  | _, _, _, _, .nil, e => by simp at e
  | _, _, 0, _, .cons r _, e => by simp at e; subst e; exact ⟨_, rfl, r⟩
  | _, _, i + 1, d, .cons _ t, e => by
    obtain ⟨v, h1, h2⟩ := RpAll.getV (i := i) (v := d) t (by simpa using e)
    exact ⟨v, by simpa using h1, h2⟩
theorem RpAll.take : ∀ {vs : List V} {ds : List D} (n : Nat), RpAll K H S vs ds → RpAll K H S (vs.take n) (ds.take n)
  | _, _, 0, _ => by simp; exact .nil
  | _, _, _ + 1, .nil => .nil
  | _, _, n + 1, .cons r t => .cons r (RpAll.take n t)
theorem RpAll.drop : ∀ {vs : List V} {ds : List D} (n : Nat), RpAll K H S vs ds → RpAll K H S (vs.drop n) (ds.drop n)
  | _, _, 0, r => r
  | _, _, _ + 1, .nil => .nil
  | _, _, n + 1, .cons _ t => RpAll.drop n t
theorem RpAll.set : ∀ {vs : List V} {ds : List D} {v : V} {d : D} (n : Nat), RpAll K H S vs ds → Rp K H S v d → RpAll K H S (vs.set n v) (ds.set n d)
  | _, _, _, _, _, .nil, _ => .nil
  | _, _, _, _, 0, .cons _ t, r => .cons r t
  | _, _, _, _, n + 1, .cons q t, r => .cons q (RpAll.set n t r)
theorem RpAll.dropLast {vs : List V} {ds : List D} (h : RpAll K H S vs ds) : RpAll K H S vs.dropLast ds.dropLast := by
  rw [List.dropLast_eq_take, List.dropLast_eq_take, h.length]; exact h.take _
theorem RpAll.reverse : ∀ {vs : List V} {ds : List D}, RpAll K H S vs ds → RpAll K H S vs.reverse ds.reverse
  | _, _, .nil => .nil
  | _, _, .cons r t => by rw [List.reverse_cons, List.reverse_cons]; exact (RpAll.reverse t).append (.cons r .nil)
/-- a value that is looked at: frozen, or owned by a slot -/
def Rb (K : PySem.W.Frag) (H : Hp) (S : Ad) (v : V) (d : D) : Prop := (∃ a, v = .ref a ∧ Ct K H S a d) ∨ Rp K H S v d
theorem Rb.list {v : V} {ds : List D} (h : Rb K H S v (.list ds)) : ∃ a xs, v = .ref a ∧ H a = some (.lst xs) ∧ RpAll K H S xs ds := by
  have go : ∀ {a}, Ct K H S a (.list ds) → ∃ b xs, V.ref a = .ref b ∧ H b = some (.lst xs) ∧ RpAll K H S xs ds := fun {a} c => by
    cases c with
    | lst e r => exact ⟨_, _, rfl, e, r⟩
  rcases h with ⟨a, rfl, c⟩ | h
  · exact go c
  · cases h with
    | cont _ c => exact go c
theorem asR_some {d : D} {ds : List D} (h : asR d = some ds) : d = scr ds := by
  unfold asR at h
  split at h
  · cases h; rfl
  · cases h
theorem RpAll.ints : ∀ (ns : List Int), RpAll K H S (ns.map V.int) (ns.map .int)
  | [] => .nil
  | i :: r => .cons (.int i) (RpAll.ints r)
theorem Rb.scr {v : V} {ds : List D} (h : Rb K H S v (scr ds)) : ∃ a xs, v = .ref a ∧ ReadL K H a xs ∧ RpAll K H S xs ds := by
  unfold Pv.scr at h
  have nk : ∀ {kvs : List (List Key × V)}, RpK K H S kvs [(PyData.none, PyData.list ds)] → False := fun {kvs} r => by
    generalize e : [(PyData.none, PyData.list ds)] = ps at r
    cases r with
    | nil => cases e
    | cons _ _ => exact nomatch (congrArg (fun l : List (D × D) => l.head?.map (·.1)) e)
  have ni : ∀ {kvs : List (Key × V)}, RpI K H S kvs [(PyData.none, PyData.list ds)] → False := fun {kvs} r => by
    generalize e : [(PyData.none, PyData.list ds)] = ps at r
    cases r with
    | nil => exact nomatch (congrArg (fun l : List (D × D) => l.head?.map (·.1)) e)
    | cons _ _ => exact nomatch (congrArg (fun l : List (D × D) => l.head?.map (·.1)) e)
  rcases h with ⟨a, rfl, c⟩ | h
  · cases c with
    | dct _ r => exact (nk r).elim
    | dci _ r => exact (ni r).elim
  · generalize e : PyData.dict [(PyData.none, PyData.list ds)] = d at h
    cases h with
    | cont _ c => cases c with
      | lst _ _ => cases e
      | dct _ r => cases e; exact (nk r).elim
      | dci _ r => cases e; exact (ni r).elim
    | read e1 e2 =>
      unfold Pv.scr at e
      cases e
      rw [e2] at e1
      exact ⟨_, _, rfl, e1, RpAll.ints _⟩
    | _ => cases e
theorem Rb.tupleX {v : V} {ds : List D} (h : Rb K H S v (.tuple ds)) : ∃ a xs, v = .ref a ∧ H a = some (.tup xs) ∧ RpAll K H S xs ds := by
  rcases h with ⟨a, rfl, c⟩ | h
  · cases c
  · cases h with
    | cont _ c => cases c
    | tup e r => exact ⟨_, _, rfl, e, r⟩
theorem Rb.tuple {v : V} {ds : List D} (h : Rb K H S v (.tuple ds)) : ∃ a xs, v = .ref a ∧ SqT K H a xs ∧ RpAll K H S xs ds := by
  obtain ⟨a, xs, e, h, r⟩ := h.tupleX
  exact ⟨a, xs, e, .inl (.inl h), r⟩
theorem Rb.seqX {v : V} {d : D} {ds : List D} (h : Rb K H S v d) (e : asTL d = some ds) : ∃ a xs, v = .ref a ∧ (SqT K H a xs ∨ SqL K H a xs) ∧ RpAll K H S xs ds := by
  cases d with
  | tuple xs =>
    cases e
    obtain ⟨a, xs, e, h, r⟩ := h.tuple
    exact ⟨a, xs, e, .inl h, r⟩
  | list xs =>
    cases e
    obtain ⟨a, xs, e, h, r⟩ := h.list
    exact ⟨a, xs, e, .inr (SqL.of h), r⟩
  | _ => cases e
theorem RpI.isI : ∀ {kvs : List (Key × V)} {ps : List (D × D)}, RpI K H S kvs ps → ∃ l, asDI ps = some l
  | _, _, .nil => ⟨[], rfl⟩
  | _, _, .cons (i := i) (d := d) _ t => by
    obtain ⟨l, e⟩ := t.isI
    exact ⟨(i, d) :: l, by show (asDI _).map _ = _; rw [e]; rfl⟩
theorem Rb.dict {v : V} {ps : List (D × D)} (h : Rb K H S v (.dict ps)) (hs : asR (.dict ps) = none) (hi : asDI ps = none) : ∃ a kvs, v = .ref a ∧ H a = some (.dT kvs) ∧ RpK K H S kvs ps := by
  rcases h with ⟨a, rfl, c⟩ | h
  · cases c with
    | dct e r => exact ⟨_, _, rfl, e, r⟩
    | dci e r => obtain ⟨l, z⟩ := r.isI; rw [hi] at z; cases z
  · generalize e : PyData.dict ps = d at h
    cases h with
    | cont _ c => cases c with
      | lst _ _ => cases e
      | dct e1 r => cases e; exact ⟨_, _, rfl, e1, r⟩
      | dci e1 r => cases e; obtain ⟨l, z⟩ := r.isI; rw [hi] at z; cases z
    | read _ _ =>
      rw [e] at hs
      exact nomatch hs
    | _ => cases e
theorem RpK.noI {kvs : List (List Key × V)} {ps : List (D × D)} (h : RpK K H S kvs ps) : asDI ps = none := by
  cases h with
  | nil => rfl
  | cons _ _ => rfl
theorem Rb.dictI {v : V} {ps : List (D × D)} {l : List (Int × D)} (h : Rb K H S v (.dict ps)) (hi : asDI ps = some l) : ∃ a kvs, v = .ref a ∧ H a = some (.dK kvs) ∧ RpI K H S kvs ps := by
  rcases h with ⟨a, rfl, c⟩ | h
  · cases c with
    | dct e r => rw [r.noI] at hi; cases hi
    | dci e r => exact ⟨_, _, rfl, e, r⟩
  · generalize e : PyData.dict ps = d at h
    cases h with
    | cont _ c => cases c with
      | lst _ _ => cases e
      | dct e1 r => cases e; rw [r.noI] at hi; cases hi
      | dci e1 r => cases e; exact ⟨_, _, rfl, e1, r⟩
    | read _ _ =>
      unfold Pv.scr at e
      cases e
      cases hi
    | _ => cases e
theorem Rb.int {v : V} {i : Int} (h : Rb K H S v (.int i)) : v = .int i := by
  rcases h with ⟨a, rfl, c⟩ | h
  · cases c
  · cases h with
    | cont _ c => cases c
    | int => rfl
theorem Rb.bool {v : V} {i : Bool} (h : Rb K H S v (.bool i)) : v = .bl i := by
  rcases h with ⟨a, rfl, c⟩ | h
  · cases c
  · cases h with
    | cont _ c => cases c
    | bl => rfl
theorem Rb.str {v : V} {i : Str} (h : Rb K H S v (.str i)) : v = .str i := by
  rcases h with ⟨a, rfl, c⟩ | h
  · cases c
  · cases h with
    | cont _ c => cases c
    | str => rfl
theorem Rb.none {v : V} (h : Rb K H S v .none) : v = .non := by
  rcases h with ⟨a, rfl, c⟩ | h
  · cases c
  · cases h with
    | cont _ c => cases c
    | non => rfl
/-- a scalar is the same in every heap -/
theorem Rb.scal {H' : Hp} {S' : Ad} {v : V} {d : D} (h : Rb K H S v d) (s : scal d = true) : Rp K H' S' v d := by
  cases d with
  | none => rw [h.none]; exact .non
  | bool b => rw [h.bool]; exact .bl b
  | int i => rw [h.int]; exact .int i
  | str x => rw [h.str]; exact .str x
  | _ => cases s
mutual
/-- flat data does not lean on what is frozen -/
theorem Rp.flat {S' : Ad} : ∀ (d : D) (v : V), flat d = true → Rp K H S v d → Rp K H S' v d
  | .none, _, _, h => by cases h with
    | non => exact .non
    | cont _ c => cases c
  | .bool b, _, _, h => by cases h with
    | bl => exact .bl b
    | cont _ c => cases c
  | .int i, _, _, h => by cases h with
    | int => exact .int i
    | cont _ c => cases c
  | .str x, _, _, h => by cases h with
    | str => exact .str x
    | cont _ c => cases c
  | .tuple ds, _, l, h => by cases h with
    | cont _ c => cases c
    | tup e r => exact .tup e (RpAll.flat ds _ (by simpa [Pv.flat] using l) r)
  | .list _, _, l, _ => by simp [Pv.flat] at l
  | .dict _, _, l, _ => by simp [Pv.flat] at l
theorem RpAll.flat {S' : Ad} : ∀ (ds : List D) (vs : List V), flatAll ds = true → RpAll K H S vs ds → RpAll K H S' vs ds
  | [], _, _, h => by cases h; exact .nil
  | d :: ds, _, l, h => by
    simp only [flatAll, Bool.and_eq_true] at l
    cases h with
    | cons h1 h2 => exact .cons (Rp.flat d _ l.1 h1) (RpAll.flat ds _ l.2 h2)
end
theorem Rb.flat {S' : Ad} {v : V} {d : D} (h : Rb K H S v d) (l : Pv.flat d = true) : Rp K H S' v d := by
  rcases h with ⟨a, rfl, c⟩ | h
  · cases c with
    | lst _ _ => simp [Pv.flat] at l
    | dct _ _ => simp [Pv.flat] at l
    | dci _ _ => simp [Pv.flat] at l
  · exact Rp.flat d v l h
mutual
theorem Rp.dp : ∀ (d : D) (v : V), PyData.canLay0 d = true → Rp K H S v d → Dp K H v d
  | .none, _, _, h => by cases h with
    | non => exact .non
    | cont _ c => cases c
  | .bool b, _, _, h => by cases h with
    | bl => exact .bl b
    | cont _ c => cases c
  | .int i, _, _, h => by cases h with
    | int => exact .int i
    | cont _ c => cases c
  | .str x, _, _, h => by cases h with
    | str => exact .str x
    | cont _ c => cases c
  | .list ds, _, l, h => by cases h with
    | cont s c => cases c with
      | lst e r => exact .lst (SqL.of e) (RpAll.dp ds _ (by simpa [PyData.canLay0] using l) r)
  | .tuple ds, _, l, h => by cases h with
    | cont _ c => cases c
    | tup e r => exact .tup (.inl (.inl e)) (RpAll.dp ds _ (by simpa [PyData.canLay0] using l) r)
  | .dict _, _, l, _ => by simp [PyData.canLay0] at l
theorem RpAll.dp : ∀ (ds : List D) (vs : List V), PyData.canLayAll0 ds = true → RpAll K H S vs ds → DpAll K H vs ds
  | [], _, _, h => by cases h; exact .nil
  | d :: ds, _, l, h => by
    simp only [PyData.canLayAll0, Bool.and_eq_true] at l
    cases h with
    | cons h1 h2 => exact .cons (Rp.dp d _ l.1 h1) (RpAll.dp ds _ l.2 h2)
end
theorem Rb.dp {v : V} {d : D} (l : PyData.canLay0 d = true) (h : Rb K H S v d) : Dp K H v d := by
  rcases h with ⟨a, rfl, c⟩ | h
  · cases c with
    | lst e r => exact .lst (SqL.of e) (r.dp _ _ (by simpa [PyData.canLay0] using l))
    | dct e r => simp [PyData.canLay0] at l
    | dci e r => simp [PyData.canLay0] at l
  · exact h.dp _ _ l
mutual
theorem Rp.dpn : ∀ (d : D) (v : V), PyData.noDict d = true → Rp K H S v d → Dp K H v d
  | .none, _, _, h => by cases h with
    | non => exact .non
    | cont _ c => cases c
  | .bool b, _, _, h => by cases h with
    | bl => exact .bl b
    | cont _ c => cases c
  | .int i, _, _, h => by cases h with
    | int => exact .int i
    | cont _ c => cases c
  | .str x, _, _, h => by cases h with
    | str => exact .str x
    | cont _ c => cases c
  | .list ds, _, l, h => by cases h with
    | cont s c => cases c with
      | lst e r => exact .lst (SqL.of e) (RpAll.dpn ds _ l r)
  | .tuple ds, _, l, h => by cases h with
    | cont _ c => cases c
    | tup e r => exact .tup (.inl (.inl e)) (RpAll.dpn ds _ l r)
  | .dict _, _, l, _ => by simp [PyData.noDict] at l
theorem RpAll.dpn : ∀ (ds : List D) (vs : List V), PyData.noDictAll ds = true → RpAll K H S vs ds → DpAll K H vs ds
  | [], _, _, h => by cases h; exact .nil
  | d :: ds, _, l, h => by
    simp only [PyData.noDictAll, Bool.and_eq_true] at l
    cases h with
    | cons h1 h2 => exact .cons (Rp.dpn d _ l.1 h1) (RpAll.dpn ds _ l.2 h2)
end
theorem Rb.dpn {v : V} {d : D} (l : PyData.noDict d = true) (h : Rb K H S v d) : Dp K H v d := by
  rcases h with ⟨a, rfl, c⟩ | h
  · cases c with
    | lst e r => exact .lst (SqL.of e) (r.dpn _ _ l)
    | dct e r => cases l
    | dci e r => cases l
  · exact h.dpn _ _ l
end
/-! ### growth -/
/-- more objects, more frozen ones; all that stood stands -/
structure Gr (H : Hp) (S : Ad) (H' : Hp) (S' : Ad) : Prop where
  ex : ∀ a o, H a = some o → H' a = some o
  sub : ∀ a, S a → S' a
  new : ∀ a, S' a → S a ∨ H a = none
  live : ∀ a, S' a → H' a ≠ none
section
variable {K : PySem.W.Frag} {H H0 H1 H2 H' : Hp} {S S0 S1 S2 S' : Ad}
theorem Gr.kp (g : Gr H S H' S') : Kp H S H' S' := ⟨g.sub, fun a o _ h => g.ex a o h, fun a o h _ => g.ex a o h⟩
theorem Gr.refl (l : ∀ a, S a → H a ≠ none) : Gr H S H S := ⟨fun _ _ h => h, fun _ h => h, fun _ h => .inl h, l⟩
theorem Gr.trans (a : Gr H S H1 S1) (b : Gr H1 S1 H2 S2) : Gr H S H2 S2 := by
  refine ⟨fun x o h => b.ex x o (a.ex x o h), fun x h => b.sub x (a.sub x h), fun x h => ?_, b.live⟩
  rcases b.new x h with h | h
  · exact a.new x h
  · right
    cases e : H x with
    | none => rfl
    | some o => rw [a.ex x o e] at h; cases h
/-- a new object that is not frozen -/
theorem Gr.new1 {p : Addr} {o : HO} (l : ∀ a, S a → H a ≠ none) (h : H p = none) : Gr H S (upd H p o) S := by
  refine ⟨fun a u e => by rw [upd_ne (ne_of_none e h)]; exact e, fun _ h => h, fun _ h => .inl h, fun a s => ?_⟩
  by_cases e : a = p
  · subst e; rw [upd_same]; simp
  · rw [upd_ne e]; exact l a s
theorem Gr.fresh {p : Addr} (g : Gr H S H' S') (h : H' p = none) : H p = none := by
  cases e : H p with
  | none => rfl
  | some o => rw [g.ex p o e] at h; cases h
/-- freezing a fresh object -/
theorem Gr.freeze {p : Addr} (g : Gr H S H' S') (h : H p = none) (h' : H' p ≠ none) : Gr H S H' (fun a => S' a ∨ a = p) := by
  refine ⟨g.ex, fun a s => .inl (g.sub a s), fun a s => ?_, fun a s => ?_⟩
  · rcases s with s | rfl
    · exact g.new a s
    · exact .inr h
  · rcases s with s | rfl
    · exact g.live a s
    · exact h'
/-- how an expression's value stands; H0: the heap ahead of it -/
def Rs (K : PySem.W.Frag) (H0 H : Hp) (S : Ad) (r : D × Os) (v : V) : Prop := match r.2 with
  | .z => Rp K H S v r.1
  | .f => ∃ a, v = .ref a ∧ H0 a = none ∧ ¬ S a ∧ Ct K H S a r.1
  | .b => Rb K H S v r.1
theorem Rs.look {r : D × Os} {v : V} (h : Rs K H0 H S r v) : Rb K H S v r.1 := by
  obtain ⟨d, o⟩ := r
  cases o with
  | z => exact .inr h
  | f => obtain ⟨a, e, _, _, c⟩ := h; exact .inl ⟨a, e, c⟩
  | b => exact h
theorem Ct.there {a : Addr} {d : D} (c : Ct K H S a d) : ∃ o, H a = some o ∧ Mut (some o) := by
  cases c with
  | lst e _ => exact ⟨_, e, trivial⟩
  | dct e _ => exact ⟨_, e, trivial⟩
  | dci e _ => exact ⟨_, e, trivial⟩
theorem Rb.grow {v : V} {d : D} (h : Rb K H S v d) (g : Gr H S H' S') : Rb K H' S' v d := by
  rcases h with ⟨a, e, c⟩ | h
  · exact .inl ⟨a, e, c.keep g.kp fun o h => g.ex a o h⟩
  · exact .inr (h.keep g.kp _ _)
theorem Rs.grow {r : D × Os} {v : V} (h : Rs K H0 H1 S1 r v) (g : Gr H1 S1 H2 S2) : Rs K H0 H2 S2 r v := by
  obtain ⟨d, o⟩ := r
  cases o with
  | z => exact Rp.keep g.kp d v h
  | f =>
    obtain ⟨a, e, h0, ns, c⟩ := h
    refine ⟨a, e, h0, fun s => ?_, c.keep g.kp fun o h => g.ex a o h⟩
    rcases g.new a s with s | s
    · exact ns s
    · obtain ⟨o, ho, _⟩ := c.there
      rw [s] at ho; cases ho
  | b => exact Rb.grow h g
/-- a value that is handed on is frozen -/
theorem Rs.take {r : D × Os} {d : D} {v : V} (h : Rs K H0 H1 S1 r v) (g : Gr H0 S0 H1 S1) (e : take r = some d) : ∃ S2, Gr H0 S0 H1 S2 ∧ (∀ a, S1 a → S2 a) ∧ Rp K H1 S2 v d := by
  obtain ⟨d', o⟩ := r
  cases o with
  | z => cases e; exact ⟨S1, g, fun _ h => h, h⟩
  | f =>
    cases e
    obtain ⟨a, rfl, h0, ns, c⟩ := h
    have hne : H1 a ≠ none := by
      obtain ⟨o, ho, _⟩ := c.there
      rw [ho]; simp
    exact ⟨_, g.freeze h0 hne, fun _ h => .inl h, .cont (.inr rfl) (c.keep ⟨fun _ h => .inl h, fun _ _ _ h => h, fun _ _ h _ => h⟩ fun _ h => h)⟩
  | b => cases e
end
/-! ### the slots -/
/-- what an owner has -/
def Own (K : PySem.W.Frag) (H : Hp) (S : Ad) (v : V) (d : D) : Prop := ∃ a, v = .ref a ∧ ¬ S a ∧ Ct K H S a d
structure Rep (K : PySem.W.Frag) (σ : St) (H : Hp) (S : Ad) (ρ : Rho) : Prop where
  len : ρ.length = σ.length
  val : ∀ (i : Nat) (d : D) (o : Bool), ρ[i]? = some (some (d, o)) → ∃ v, σ[i]? = some (some v) ∧ if o = true then Own K H S v d else Rp K H S v d
  ap : ∀ (i j : Nat) (d d' : D) (a : Addr), i ≠ j → ρ[i]? = some (some (d, true)) → ρ[j]? = some (some (d', true)) → σ[i]? = some (some (.ref a)) → σ[j]? ≠ some (some (.ref a))
  live : ∀ a, S a → H a ≠ none
section
variable {K : PySem.W.Frag} {H H0 H1 H2 H' : Hp} {S S0 S1 S2 S' : Ad} {σ : St} {ρ : Rho}
theorem Own.grow {v : V} {d : D} (h : Own K H S v d) (g : Gr H S H' S') : Own K H' S' v d := by
  obtain ⟨a, e, ns, c⟩ := h
  refine ⟨a, e, fun s => ?_, c.keep g.kp fun o h => g.ex a o h⟩
  rcases g.new a s with s | s
  · exact ns s
  · obtain ⟨o, ho, _⟩ := c.there
    rw [s] at ho; cases ho
theorem Rep.grow (R : Rep K σ H S ρ) (g : Gr H S H' S') : Rep K σ H' S' ρ := by
  refine ⟨R.len, fun i d o e => ?_, R.ap, g.live⟩
  obtain ⟨v, e1, e2⟩ := R.val i d o e
  refine ⟨v, e1, ?_⟩
  cases o with
  | true => exact Own.grow e2 g
  | false => exact Rp.keep g.kp d v e2
theorem Rep.lookV (R : Rep K σ H S ρ) {i : Nat} {d : D} {o : Bool} (e : ρ[i]? = some (some (d, o))) : ∃ v, σ[i]? = some (some v) ∧ Rb K H S v d := by
  obtain ⟨v, e1, e2⟩ := R.val i d o e
  refine ⟨v, e1, ?_⟩
  cases o with
  | true => obtain ⟨a, h, _, c⟩ := e2; exact .inl ⟨a, h, c⟩
  | false => exact .inr e2
end
end Pv

set_option Elab.async false
set_option linter.all false
set_option maxRecDepth 100000
/-! Pv2: operators and built-in functions on values. -/
namespace Pv
open PySem L2 PyProof.Rows
def toOp : Op2 → Operator
  | .add => .Add | .sub => .Sub | .mul => .Mult | .fdiv => .FloorDiv | .mod => .Mod | .pow => .Pow | .shl => .LShift | .band => .BitAnd | .bor => .BitOr
def toCmp : Cm → CmpOp
  | .eq => .Eq | .ne => .NotEq | .lt => .Lt | .le => .LtE | .gt => .Gt | .ge => .GtE | .isn => .Is | .isnn => .IsNot | .inn => .In | .nin => .NotIn
/-- what is wanted behind an operation on values that comes to r -/
def Fin (K : PySem.W.Frag) (H : Hp) (S : Ad) (r : D × Os) (Q : VK) : Prop := ∀ v H' S', Gr H S H' S' → Rs K H H' S' r v → Q v H'
theorem Fin.val {K : PySem.W.Frag} {H : Hp} {S : Ad} {d : D} {Q : VK} {v : V} (f : Fin K H S (d, .z) Q) (l : ∀ a, S a → H a ≠ none) (h : Rp K H S v d) : Q v H := f v H S (Gr.refl l) h
/-- a new list -/
theorem Fin.lst {K : PySem.W.Frag} {H : Hp} {S : Ad} {ds : List D} {xs : List V} {Q : VK} {p : Addr} (f : Fin K H S (.list ds, .f) Q) (l : ∀ a, S a → H a ≠ none) (h : H p = none) (r : RpAll K H S xs ds) : Q (.ref p) (upd H p (.lst xs)) := by
  have g : Gr H S (upd H p (.lst xs)) S := Gr.new1 l h
  exact f _ _ S g ⟨p, rfl, h, fun s => l p s h, .lst upd_same (r.keep g.kp _ _)⟩
theorem le_line {n : Nat} (h : n ≤ lim) : n ≤ sizeLine := Nat.le_trans h (by rw [sizeLine_eq]; decide)
section
variable {X : Cx}
def rOp2 (K : PySem.W.Frag) (o : Op2) : R2 := fun x y H Q => ∃ S a b r, (∀ a, S a → H a ≠ none) ∧ Rb K H S x a ∧ Rb K H S y b ∧ op2 o a b = some r ∧ Fin K H S r Q
theorem opI_ok (o : Op2) {pins : List (Addr × Obj)} {s : Shared} {σ : L2.St} {H : Hp} {i j : Int} {t u : Tok} {Q : VK} {d : D} (I : Inv X pins σ H s) (e : opI o i j = some d) (q : ∀ k : Int, d = .int k → Q (.int k) H) :
    wpAny (model X.prog X.w) X.A (binaryOp (toOp o) (.int i t) (.int j u)) (EP X pins σ Q) X.xe s := by
  have fin : ∀ k : Int, some (PyData.int k) = some d → EP X pins σ Q (.int k s.toks) { s with toks := s.toks + 1 } := fun k e => by
    cases e
    exact ⟨.int k, H, I.tok _, ⟨_, rfl⟩, q k rfl⟩
  cases o with
  | add => exact add_int (fin _ e)
  | sub => exact sub_int (fin _ e)
  | mul =>
    simp only [opI] at e
    split at e
    · rename_i h
      simp only [mulOk, Bool.or_eq_true, decide_eq_true_eq] at h
      rcases h with h | h | h
      · exact mul_int (fin _ e) (CMulW.ok h)
      · exact mul_int (fin _ e) (CMul.ok (.inl ⟨by omega, by omega⟩))
      · exact mul_int (fin _ e) (CMul.ok (.inr ⟨by omega, by omega⟩))
    · cases e
  | fdiv =>
    simp only [opI] at e
    split at e
    · rename_i h
      simp only [divOk, Bool.and_eq_true, decide_eq_true_eq] at h
      exact floordiv_int h.1 (fin _ e) (.inl (PyProof.noPylong_of_log2 h.2))
    · cases e
  | mod =>
    simp only [opI] at e
    split at e
    · cases e
    · rename_i h
      exact mod_int' h (fin _ e)
  | pow =>
    simp only [opI] at e
    split at e
    · rename_i h
      simp only [powOk, Bool.and_eq_true, decide_eq_true_eq] at h
      exact pow_int_small h.1 h.2.1 h.2.2 (fin _ e)
    · cases e
  | shl =>
    simp only [opI] at e
    split at e
    · rename_i h
      simp only [powOk, Bool.and_eq_true, decide_eq_true_eq] at h
      exact lshift_int_small h.1 h.2.1 h.2.2 (fin _ e)
    · cases e
  | band => exact and_int (fin _ e)
  | bor => exact or_int (fin _ e)
theorem asI_some {d : D} {i : Int} (h : asI d = some i) : d = .int i := by cases d <;> first | (cases h; rfl) | cases h
theorem asB_some {d : D} {i : Bool} (h : asB d = some i) : d = .bool i := by cases d <;> first | (cases h; rfl) | cases h
theorem asS_some {d : D} {i : Str} (h : asS d = some i) : d = .str i := by cases d <;> first | (cases h; rfl) | cases h
theorem asL_some {d : D} {i : List D} (h : asL d = some i) : d = .list i := by cases d <;> first | (cases h; rfl) | cases h
theorem asT_some {d : D} {i : List D} (h : asT d = some i) : d = .tuple i := by cases d <;> first | (cases h; rfl) | cases h
theorem op2_ok (o : Op2) : OpR X (binaryOp (toOp o)) (rOp2 X.K o) := by
  intro pins s σ H x y v u Q I rx ry h
  obtain ⟨S, a, b, r, l, ha, hb, e, f⟩ := h
  cases a with
  | int i =>
    obtain ⟨j, e1, e⟩ := Option.bind_eq_some_iff.mp (show ((asI b).bind fun j => (opI o i j).map (·, Os.z)) = some r from e)
    obtain ⟨d, e2, rfl⟩ := Option.map_eq_some_iff.mp e
    rw [asI_some e1] at hb
    rw [ha.int] at rx
    rw [hb.int] at ry
    obtain ⟨t, rfl⟩ := rx
    obtain ⟨t', rfl⟩ := ry
    exact opI_ok o I e2 fun k hk => f.val l (by rw [hk]; exact .int k)
  | list ds =>
    have isInt : (∃ j, b = .int j) ∨ op2 o (.list ds) b = ((asL b).bind fun ys => catL o ds ys) := by
      cases b <;> first | exact .inl ⟨_, rfl⟩ | exact .inr rfl
    rcases isInt with ⟨j, rfl⟩ | eb
    · have e : repL o ds j = some r := e
      have eo : o = .mul := by cases o <;> first | rfl | cases e
      subst eo
      simp only [repL] at e
      split at e
      · rename_i hz
        cases e
        obtain ⟨p, xs, rfl, hp, r1⟩ := ha.list
        have p63 : (2 : Int) ^ 63 = 9223372036854775808 := by decide +kernel
        have rep : ∀ n, RpAll X.K H S (List.replicate n xs).flatten (List.replicate n ds).flatten := fun n => by
          induction n with
          | zero => exact .nil
          | succ n ih => rw [List.replicate_succ, List.replicate_succ, List.flatten_cons, List.flatten_cons]; exact r1.append ih
        refine op_rep pins s σ H _ _ v u Q I rx ry ⟨p, j, xs, rfl, hb.int, hp, by rw [p63]; omega, by rw [p63]; omega, ?_, fun p hp => f.lst l hp (rep _)⟩
        rw [r1.length]; exact le_line hz.2
      · cases e
    rw [eb] at e
    obtain ⟨es, e1, e⟩ := Option.bind_eq_some_iff.mp e
    rw [asL_some e1] at hb
    have eo : o = .add := by cases o <;> first | rfl | cases e
    subst eo
    simp only [catL] at e
    split at e
    · rename_i hz
      cases e
      obtain ⟨p, xs, rfl, hp, r1⟩ := ha.list
      obtain ⟨q, ys, rfl, hq, r2⟩ := hb.list
      refine op_cat pins s σ H _ _ v u Q I rx ry ⟨p, q, xs, ys, rfl, rfl, hp, hq, ?_, fun p hp => f.lst l hp (r1.append r2)⟩
      rw [r1.length, r2.length]; exact le_line hz
    · cases e
  | str z =>
    obtain ⟨w, e1, e⟩ := Option.bind_eq_some_iff.mp (show ((asS b).bind fun ys => catS o z ys) = some r from e)
    rw [asS_some e1] at hb
    have eo : o = .add := by cases o <;> first | rfl | cases e
    subst eo
    simp only [catS] at e
    split at e
    · rename_i hz
      cases e
      rw [ha.str] at rx
      rw [hb.str] at ry
      exact op_add_str pins s σ H _ _ v u Q I rx ry ⟨z, w, rfl, rfl, le_line hz, f.val l (.str _)⟩
    · cases e
  | tuple ds =>
    obtain ⟨es, e1, e⟩ := Option.bind_eq_some_iff.mp (show ((asT b).bind fun ys => catT o ds ys) = some r from e)
    rw [asT_some e1] at hb
    have eo : o = .add := by cases o <;> first | rfl | cases e
    subst eo
    simp only [catT] at e
    split at e
    · rename_i hz
      cases e
      simp only [Bool.and_eq_true, Bool.not_eq_true', decide_eq_true_eq] at hz
      obtain ⟨⟨z1, z2⟩, hz⟩ := hz
      obtain ⟨p, xs, rfl, hp, r1⟩ := ha.tuple
      obtain ⟨q, ys, rfl, hq, r2⟩ := hb.tuple
      have n1 : xs ≠ [] := fun z => by
        have := r1.length
        rw [z] at this
        cases ds with
        | nil => cases z1
        | cons _ _ => cases this
      have n2 : ys ≠ [] := fun z => by
        have := r2.length
        rw [z] at this
        cases es with
        | nil => cases z2
        | cons _ _ => cases this
      refine op_catT pins s σ H _ _ v u Q I rx ry ⟨p, q, xs, ys, rfl, rfl, hp, hq, n1, ?_, fun z => absurd z n2, fun _ p2 hp2 => ?_⟩
      · rw [r1.length, r2.length]; exact le_line hz
      · have g : Gr H S (upd H p2 (.tup (xs ++ ys))) S := Gr.new1 l hp2
        exact f _ _ S g (.tup upd_same ((r1.append r2).keep g.kp _ _))
    · cases e
  | _ => cases e
def rCm (K : PySem.W.Frag) (o : Cm) : R2 := fun x y H Q => ∃ S a b k, Rb K H S x a ∧ Rb K H S y b ∧ cm o a b = some k ∧ Q (.bl k) H
theorem cmO_ok (o : Cm) {pins : List (Addr × Obj)} {s : Shared} {σ : L2.St} {H : Hp} {S : Ad} {a b : D} {x y : V} {v u : Value} {Q : VK} {k : Bool} (I : Inv X pins σ H s) (rx : RelV x v) (ry : RelV y u) (ha : Rb X.K H S x a) (hb : Rb X.K H S y b)
    (e : cmO o a b = some k) (q : Q (.bl k) H) : wpAny (model X.prog X.w) X.A (compareOp (toCmp o) v u) (EP X pins σ Q) X.xe s := by
  obtain ⟨i, e1, e⟩ := Option.bind_eq_some_iff.mp (show ((asI a).bind fun i => (asI b).bind fun j => cmI o i j) = some k from e)
  obtain ⟨j, e2, e⟩ := Option.bind_eq_some_iff.mp e
  rw [asI_some e1] at ha
  rw [asI_some e2] at hb
  rw [ha.int] at rx
  rw [hb.int] at ry
  cases o <;> cases e
  · exact op_lt pins s σ H _ _ v u Q I rx ry ⟨i, j, rfl, rfl, q⟩
  · exact op_le pins s σ H _ _ v u Q I rx ry ⟨i, j, rfl, rfl, q⟩
  · exact op_gt pins s σ H _ _ v u Q I rx ry ⟨i, j, rfl, rfl, q⟩
  · exact op_ge pins s σ H _ _ v u Q I rx ry ⟨i, j, rfl, rfl, q⟩
/-! ### dicts -/
section
variable {K : PySem.W.Frag} {H H' : Hp} {S S' : Ad}
theorem intsO_inv : ∀ {ds : List D} {k : List Int}, intsO ds = some k → ds = k.map .int
  | [], _, h => by cases h; rfl
  | d :: ds, k, h => by
    cases d with
    | int i =>
      obtain ⟨k', h1, rfl⟩ := Option.map_eq_some_iff.mp (show (intsO ds).map (i :: ·) = some k from h)
      rw [intsO_inv h1]; rfl
    | _ => cases h
theorem intsO_of : ∀ k : List Int, intsO (k.map .int) = some k
  | [] => rfl
  | i :: k => by show (intsO (k.map .int)).map (i :: ·) = _; rw [intsO_of k]; rfl
theorem RpAll.intsV : ∀ {xs : List V} {k : List Int}, RpAll K H S xs (k.map .int) → xs = k.map V.int
  | xs, [], h => by cases h; rfl
  | xs, i :: k, h => by
    cases h with
    | cons h1 h2 =>
      rw [(show Rb K H S _ (.int i) from .inr h1).int, RpAll.intsV h2]; rfl
theorem kV_ints (k : List Int) : (k.map Sum.inl).map kV = k.map V.int := by rw [List.map_map]; rfl
theorem Rb.key {y : V} {b : D} {k : List Int} (h : Rb K H S y b) (e : keyO b = some k) : ∃ p, y = .ref p ∧ H p = some (.tup ((k.map Sum.inl : List Key).map kV)) := by
  cases b with
  | tuple ds =>
    have e1 : intsO ds = some k := e
    obtain ⟨a, xs, rfl, hp, r⟩ := h.tupleX
    rw [intsO_inv e1] at r
    exact ⟨a, rfl, by rw [kV_ints, hp, r.intsV]⟩
  | _ => cases e
theorem inl_inj {k j : List Int} : (k.map Sum.inl : List Key) = j.map Sum.inl ↔ k = j :=
  ⟨fun h => by
    induction k generalizing j with
    | nil => cases j with
      | nil => rfl
      | cons _ _ => cases h
    | cons a k ih => cases j with
      | nil => cases h
      | cons b j =>
        simp only [List.map_cons, List.cons.injEq] at h
        rw [Sum.inl.inj h.1, ih h.2], fun h => by rw [h]⟩
theorem asKs_cons {k : List Int} {d : D} {ps : List (D × D)} {l : List (List Int × D)} (h : asKs ((tupI k, d) :: ps) = some l) : ∃ l', asKs ps = some l' ∧ l = (k, d) :: l' := by
  unfold asKs at h
  obtain ⟨k', h1, h⟩ := Option.bind_eq_some_iff.mp h
  obtain ⟨l', h2, rfl⟩ := Option.map_eq_some_iff.mp h
  have : some k = some k' := by rw [← h1]; exact (intsO_of k).symm
  cases this
  exact ⟨l', h2, rfl⟩
theorem RpK.parts : ∀ {ps : List (D × D)} {kvs : List (List Key × V)} {l : List (List Int × D)}, RpK K H S kvs ps → asKs ps = some l → kvs.length = l.length ∧ kvs.map (·.1) = l.map (fun p => p.1.map Sum.inl) ∧ ps = dkL l
  | [], _, _, r, e => by cases r; cases e; exact ⟨rfl, rfl, rfl⟩
  | _ :: ps, _, _, r, e => by
    cases r with
    | cons h1 h2 =>
      obtain ⟨l', e1, rfl⟩ := asKs_cons e
      obtain ⟨a, b, c⟩ := RpK.parts h2 e1
      exact ⟨by simp [a], by simp [b], by rw [c]; rfl⟩
theorem RpK.find : ∀ {ps : List (D × D)} {kvs : List (List Key × V)} {l : List (List Int × D)} {k : List Int} {d : D}, RpK K H S kvs ps → asKs ps = some l → dfind l k = some d → ∃ v, valV kvs (k.map Sum.inl) = some v ∧ Rp K H S v d
  | [], _, _, _, _, r, e, f => by cases r; cases e; cases f
  | _ :: ps, _, _, k, d, r, e, f => by
    cases r with
    | @cons k' v' d' kvs' _ h1 h2 =>
      obtain ⟨l', e1, rfl⟩ := asKs_cons e
      unfold dfind at f
      by_cases hk : k' = k
      · subst hk
        rw [List.find?_cons_of_pos (by simp)] at f
        cases f
        exact ⟨v', valV_pos rfl, h1⟩
      · rw [List.find?_cons_of_neg (by simpa using hk)] at f
        obtain ⟨v, a, b⟩ := RpK.find (k := k) (d := d) h2 e1 f
        exact ⟨v, by rw [valV_neg (fun z => hk (inl_inj.mp z))]; exact a, b⟩
theorem RpK.has : ∀ {ps : List (D × D)} {kvs : List (List Key × V)} {l : List (List Int × D)} {k : List Int}, RpK K H S kvs ps → asKs ps = some l → (valV kvs (k.map Sum.inl)).isSome = dhas l k
  | [], _, _, _, r, e => by cases r; cases e; rfl
  | _ :: ps, _, _, k, r, e => by
    cases r with
    | @cons k' v' d' kvs' _ h1 h2 =>
      obtain ⟨l', e1, rfl⟩ := asKs_cons e
      have ih := RpK.has (k := k) h2 e1
      by_cases hk : k' = k
      · subst hk
        rw [valV_pos rfl]
        simp [dhas]
      · rw [valV_neg (fun z => hk (inl_inj.mp z)), ih]
        simp [dhas, hk]
theorem RpK.app : ∀ {ps qs : List (D × D)} {kvs ws : List (List Key × V)}, RpK K H S kvs ps → RpK K H S ws qs → RpK K H S (kvs ++ ws) (ps ++ qs)
  | [], _, _, _, r, s => by cases r; exact s
  | _ :: ps, _, _, _, r, s => by
    cases r with
    | cons h1 h2 => exact .cons h1 (RpK.app h2 s)
theorem RpK.repl {k : List Int} {v : V} {d : D} (hv : Rp K H S v d) : ∀ {l : List (List Int × D)} {kvs : List (List Key × V)}, RpK K H S kvs (dkL l) → RpK K H S (kvs.map fun kv => if kv.1 = k.map Sum.inl then (kv.1, v) else kv) (dkL (l.map fun p => if p.1 = k then (p.1, d) else p))
  | [], _, r => by cases r; exact .nil
  | (k', d') :: l, _, r => by
    have e0 : dkL ((k', d') :: l) = (tupI k', d') :: dkL l := rfl
    rw [e0] at r
    generalize hx : tupI k' = x at r
    cases r with
    | @cons k2 v' d2 kvs' _ h1 h2 =>
      have ek : k' = k2 := Option.some.inj (by rw [← intsO_of k', ← intsO_of k2]; exact congrArg keyO hx)
      subst ek
      have ih := RpK.repl (k := k) hv h2
      rw [List.map_cons, List.map_cons]
      by_cases hk : k' = k
      · subst hk
        rw [if_pos rfl, if_pos rfl]
        exact .cons hv ih
      · rw [if_neg (fun z => hk (inl_inj.mp z)), if_neg hk]
        exact .cons h1 ih
theorem RpI.invN {kvs : List (Key × V)} {ps : List (D × D)} (r : RpI K H S kvs ps) (e : ps = dkI []) : kvs = [] := by
  cases r with
  | nil => rfl
  | cons _ t =>
    exfalso
    injection e with e1 _
    injection e1 with e2 _
    cases e2
theorem RpI.invC {kvs : List (Key × V)} {ps : List (D × D)} {p : Int × D} {l : List (Int × D)} (r : RpI K H S kvs ps) (e : ps = dkI (p :: l)) : ∃ v kvs', kvs = (Sum.inl p.1, v) :: kvs' ∧ Rp K H S v p.2 ∧ RpI K H S kvs' (dkI l) := by
  cases r with
  | nil =>
    exfalso
    injection e with e1 _
    injection e1 with e2 _
    cases e2
  | @cons i v d kvs' ps' h1 t =>
    injection e with e1 e2
    injection e1 with e3 e4
    injection e3 with e3
    subst e2 e3 e4
    exact ⟨v, kvs', rfl, h1, t⟩
theorem RpI.keys : ∀ {l : List (Int × D)} {kvs : List (Key × V)}, RpI K H S kvs (dkI l) → kvs.map (·.1) = l.map fun p => Sum.inl p.1
  | [], _, h => by rw [h.invN rfl]; rfl
  | p :: l, _, h => by
    obtain ⟨v, kvs', rfl, _, t⟩ := h.invC rfl
    rw [List.map_cons, List.map_cons, RpI.keys t]
theorem RpI.len : ∀ {l : List (Int × D)} {kvs : List (Key × V)}, RpI K H S kvs (dkI l) → kvs.length = l.length
  | [], _, h => by rw [h.invN rfl]; rfl
  | p :: l, _, h => by
    obtain ⟨v, kvs', rfl, _, t⟩ := h.invC rfl
    simp [RpI.len t]
theorem RpI.find : ∀ {l : List (Int × D)} {kvs : List (Key × V)} {k : Int} {d : D}, RpI K H S kvs (dkI l) → ifind l k = some d → ∃ v, valV kvs (Sum.inl k) = some v ∧ Rp K H S v d
  | [], _, _, _, _, f => by cases f
  | p :: l, _, k, d, h, f => by
    obtain ⟨v, kvs', rfl, hv, t⟩ := h.invC rfl
    unfold ifind at f
    by_cases hk : p.1 = k
    · rw [List.find?_cons_of_pos (by simpa using hk)] at f
      cases f
      exact ⟨v, valV_pos (by rw [hk]), hv⟩
    · rw [List.find?_cons_of_neg (by simpa using hk)] at f
      obtain ⟨v', a, b⟩ := RpI.find (k := k) (d := d) t f
      exact ⟨v', by rw [valV_neg (fun z => hk (Sum.inl.inj z))]; exact a, b⟩
theorem RpI.has : ∀ {l : List (Int × D)} {kvs : List (Key × V)} {k : Int}, RpI K H S kvs (dkI l) → (valV kvs (Sum.inl k)).isSome = ihas l k
  | [], _, _, h => by rw [h.invN rfl]; rfl
  | p :: l, _, k, h => by
    obtain ⟨v, kvs', rfl, hv, t⟩ := h.invC rfl
    have ih := RpI.has (k := k) t
    by_cases hk : p.1 = k
    · rw [valV_pos (by rw [hk])]
      simp [ihas, hk]
    · rw [valV_neg (fun z => hk (Sum.inl.inj z)), ih]
      simp [ihas, hk]
theorem RpI.repl {k : Int} {v : V} {d : D} (hv : Rp K H S v d) : ∀ {l : List (Int × D)} {kvs : List (Key × V)}, RpI K H S kvs (dkI l) → RpI K H S (kvs.map fun kv => if kv.1 = Sum.inl k then (kv.1, v) else kv) (dkI (l.map fun p => if p.1 = k then (p.1, d) else p))
  | [], _, h => by rw [h.invN rfl]; exact .nil
  | p :: l, _, h => by
    obtain ⟨v', kvs', rfl, h1, t⟩ := h.invC rfl
    have ih := RpI.repl (k := k) hv t
    rw [List.map_cons, List.map_cons]
    by_cases hk : p.1 = k
    · rw [if_pos (by rw [hk]), if_pos hk]
      exact .cons hv ih
    · rw [if_neg (fun z => hk (Sum.inl.inj z)), if_neg hk]
      exact .cons h1 ih
theorem RpI.snoc {k : Int} {v : V} {d : D} (hv : Rp K H S v d) : ∀ {l : List (Int × D)} {kvs : List (Key × V)}, RpI K H S kvs (dkI l) → RpI K H S (kvs ++ [(Sum.inl k, v)]) (dkI (l ++ [(k, d)]))
  | [], _, h => by rw [h.invN rfl]; exact .cons hv .nil
  | p :: l, _, h => by
    obtain ⟨v', kvs', rfl, h1, t⟩ := h.invC rfl
    exact .cons h1 (RpI.snoc hv t)
theorem RpI.put {kvs : List (Key × V)} {l : List (Int × D)} {k : Int} {v : V} {d : D} (r : RpI K H S kvs (dkI l)) (hv : Rp K H S v d) : RpI K H S (putK kvs (Sum.inl k) v) (dkI (iput l k d)) := by
  have h := r.has (k := k)
  rw [← valV_any] at h
  unfold putK iput
  rw [h]
  split
  · exact RpI.repl hv r
  · exact RpI.snoc hv r
theorem asR_none {ps : List (D × D)} {l : List (List Int × D)} (h : asKs ps = some l) : asR (.dict ps) = none := by
  cases e : asR (.dict ps) with
  | none => rfl
  | some xs =>
    have := asR_some e
    unfold Pv.scr at this
    cases this
    cases h
theorem RpK.put {ps : List (D × D)} {kvs : List (List Key × V)} {l : List (List Int × D)} {k : List Int} {v : V} {d : D} (r : RpK K H S kvs ps) (e : asKs ps = some l) (hv : Rp K H S v d) : RpK K H S (putK kvs (k.map Sum.inl) v) (dkL (dput l k d)) := by
  obtain ⟨_, _, rfl⟩ := r.parts e
  have h := r.has (k := k) e
  rw [← valV_any] at h
  unfold putK dput
  rw [h]
  split
  · exact RpK.repl hv r
  · have := r.app (.cons (k := k) hv .nil)
    unfold dkL at this ⊢
    rw [List.map_append]
    exact this
end
section
open PySem.W PySem.Calls
variable {prog : Program} {w : World} {A : Around} {E : Value → Shared → Prop} {s : Shared}
theorem eq_empty {a b : Addr} {oa ob : Obj} {es : Array DictEntry} {ep ep' : Nat} {Q : Value → Shared → Prop} (ha : (a == sysModules) = false) (hb : (b == sysModules) = false)
    (hoa : s.heap.get? a = some oa) (hxa : oa.ExactDict) (hda : oa.data = .dict es ep) (hob : s.heap.get? b = some ob) (hxb : ob.ExactDict) (hdb : ob.data = .dict #[] ep') (hu : A.units < cLine) (h : Q (.bool (decide (es.size = 0))) s) :
    wpAny (model prog w) A (compareOp .Eq (.ref a) (.ref b)) Q E s := by
  have ta : s.TypeIs (.ref a) "dict" := ⟨oa, hoa, hxa.1⟩
  have tb : s.TypeIs (.ref b) "dict" := ⟨ob, hob, hxb.1⟩
  refine wpAny_richCompare_same_room (op := .Eq) ta tb PySem.F.slot_dict_eq (wpAny_call_entry PySem.F.slot_dict_eq ta PySem.F.entry_dict_eq ?_ (PySem.F.args_dict_eq_2 _ _)) hu
  show wpAny _ _ (Builtin.Dict.dictSlotArgs "__eq__" ⟨[.ref a, .ref b], []⟩ >>= _) _ _ s
  refine wpAny_bind ?_
  unfold Builtin.Dict.dictSlotArgs
  refine wpAny_bind (wpAny_notOrdered_dict ta ?_)
  show wpAny _ _ (pure (Value.ref a, Value.ref b)) _ _ s
  refine wpAny_pure ?_
  refine wpAny_bind (wpAny_isInstance (T := "dict") tb PySem.F.sub_dict_dict ?_)
  simp only [Bool.not_true, Bool.false_eq_true, if_false]
  refine wpAny_bind (wpAny_pure (wpAny_bind (wpAny_pure ?_)))
  refine wpAny_bind ?_
  unfold Builtin.Dict.samePairs Builtin.Dict.showsAll
  rw [if_neg (show ¬ (a == sysModules) = true by rw [ha]; exact Bool.false_ne_true), if_neg (show ¬ (b == sysModules) = true by rw [hb]; exact Bool.false_ne_true)]
  refine wpAny_bind (wpAny_pure (wpAny_bind (wpAny_pure ?_)))
  refine wpAny_bind (wpAny_dictEntries hoa hda ?_)
  dsimp only
  refine wpAny_bind (wpAny_dictEntries hob hdb ?_)
  by_cases hsz : es.size = 0
  · rw [if_neg (by simp [hsz])]
    rw [decide_eq_true hsz] at h
    refine wpAny_bind (wpAny_dictEpoch hoa hda (wpAny_bind ?_))
    rw [hsz, Std.Legacy.Range.forIn_eq_forIn_range']
    refine wpAny_pure (wpAny_pure ?_)
    exact wpAny_pure ⟨_, rfl, (fun x => nomatch x : Value.bool _ ≠ Value.notImplemented), by simpa using h⟩
  · rw [if_pos (by simpa using hsz)]
    rw [decide_eq_false hsz] at h
    refine wpAny_bind (wpAny_rule (wpAny_pure ?_))
    exact wpAny_pure ⟨_, rfl, (fun x => nomatch x : Value.bool _ ≠ Value.notImplemented), by simpa using h⟩
/-- o[i], by the item alone -/
theorem tail_item {value slice : Expr} {o i : Value} {ty nm : String} {Q : Value → Shared → Prop} (known : typeLookup (.type ty) "__getitem__" = pure (some (.builtin nm))) (hty : s.TypeIs o ty)
    (plain : subscripted slice false o i = operate [o, i] (getItem o i)) (run : wpAny (model prog w) A (getItem o i) Q E s) : wpAny (model prog w) A (subscriptTail value slice o i) Q E s := by
  have done : wpAny (model prog w) A (subscripted slice false o i) (fun z s1 => wpAny (model prog w) A (letTemporaryGo value o z >>= fun _ => pure z) Q E s1) E s := by
    rw [plain]
    refine wpAny_operating (wpAny_mono run (fun z s1 hz => ?_) fun _ _ k => k)
    exact wpAny_bind (wpAny_letTemporaryGo (wpAny_pure hz))
  unfold subscriptTail
  refine wpAny_bind ?_
  rw [getitemInPython_of_ne hty.not_modules]
  refine wpAny_bind (wpAny_specialOf hty known ?_)
  first
    | exact wpAny_bind (wpAny_pure (wpAny_bind done))
    | exact wpAny_pure (wpAny_bind done)
    | exact wpAny_bind done
end
theorem eqOk_lay {a b : D} (h : eqOk a b = true) : SeqAt.shaped a = true ∧ SeqAt.shaped b = true := Bool.and_eq_true_iff.mp h
theorem Rb.dps {K : PySem.W.Frag} {H : Hp} {S : Ad} {v : V} {d : D} (l : SeqAt.shaped d = true) (h : Rb K H S v d) : Dp K H v d := h.dp (SeqAt.canLay_of_shaped l)
theorem Rb.isN {K : PySem.W.Frag} {H : Hp} {S : Ad} {v : V} {d : D} (h : Rb K H S v d) : decide (v = .non) = isNone d := by
  cases d with
  | none => rw [h.none]; rfl
  | bool b => rw [h.bool]; rfl
  | int b => rw [h.int]; rfl
  | str b => rw [h.str]; rfl
  | _ =>
    rcases h with ⟨a, rfl, _⟩ | h
    · rfl
    · cases h <;> rfl
theorem inO_ok {pins : List (Addr × Obj)} {s : Shared} {σ : L2.St} {H : Hp} {S : Ad} {a b : D} {x y : V} {v u : Value} {Q : VK} {k : Bool} (hu : X.A.units + 65 < cLine) (I : Inv X pins σ H s) (rx : RelV x v) (ry : RelV y u) (ha : Rb X.K H S x a) (hb : Rb X.K H S y b)
    (e : inO a b = some k) : (Q (.bl k) H → wpAny (model X.prog X.w) X.A (compareOp .In v u) (EP X pins σ Q) X.xe s) ∧ (Q (.bl (!k)) H → wpAny (model X.prog X.w) X.A (compareOp .NotIn v u) (EP X pins σ Q) X.xe s) := by
  cases b with
  | list ys =>
    simp only [inO] at e
    split at e
    · rename_i h
      cases e
      obtain ⟨h1, h2⟩ := eqOk_lay h
      exact ⟨fun q => op_inD hu pins s σ H _ _ v u Q I rx ry ⟨a, ys, ha.dps h1, hb.dps h2, h1, h2, q⟩, fun q => op_notInD hu pins s σ H _ _ v u Q I rx ry ⟨a, ys, ha.dps h1, hb.dps h2, h1, h2, q⟩⟩
    · cases e
  | tuple ys =>
    simp only [inO] at e
    split at e
    · rename_i h
      cases e
      obtain ⟨h1, h2⟩ := eqOk_lay h
      obtain ⟨as, r1⟩ := Dp.reads I a x v (ha.dps h1) rx
      obtain ⟨bs, r2⟩ := Dp.reads I (.tuple ys) y u (hb.dps h2) ry
      have l1 := SeqAt.canLay_of_shaped h1
      have l2 := SeqAt.canLay_of_shaped h2
      have rm : X.A.units + 1 + min (PyData.depthAll ys) a.depth < cLine := by
        have : a.depth ≤ 64 := by
          unfold SeqAt.shaped at h1
          rw [Bool.and_eq_true, decide_eq_true_eq] at h1
          exact h1.2
        omega
      exact ⟨fun q => SeqAt.in_tuple_reads r2 r1 (by simpa [PyData.canLay0] using l2) l1 rm ⟨.bl _, H, I, rfl, q⟩, fun q => SeqAt.notIn_tuple_reads r2 r1 (by simpa [PyData.canLay0] using l2) l1 rm ⟨.bl _, H, I, rfl, q⟩⟩
    · cases e
  | str z =>
    obtain ⟨w, e1, e⟩ := Option.map_eq_some_iff.mp (show ((asS a).map fun x => !(Builtin.Str.occurrences z x 0 z.length 1).isEmpty) = some k from e)
    rw [asS_some e1] at ha
    rw [ha.str] at rx
    rw [hb.str] at ry
    subst e
    exact ⟨fun q => op_in_str pins s σ H _ _ v u Q I rx ry ⟨w, z, rfl, rfl, q⟩, fun q => L2.op_notin_str pins s σ H _ _ v u Q I rx ry ⟨w, z, rfl, rfl, q⟩⟩
  | dict ps =>
    cases hI : asDI ps with
    | some l =>
      simp only [inO, hI] at e
      obtain ⟨j, e2, rfl⟩ := Option.map_eq_some_iff.mp e
      obtain ⟨p, kvs, rfl, hp, r⟩ := hb.dictI hI
      rw [asI_some e2] at ha
      have hx := ha.int
      subst hx
      obtain rfl : u = .ref p := ry
      rw [asDI_inv hI] at r
      have g : DGet H p (.int j) (valV kvs (Sum.inl j)) := .inl ⟨kvs, Sum.inl j, .inl hp, rfl, rfl⟩
      have hh := r.has (k := j)
      exact ⟨fun q2 => d_in (by omega) I g rx fun s' I' => ⟨.bl _, H, I', rfl, by rw [hh]; exact q2⟩, fun q2 => d_notIn (by omega) I g rx fun s' I' => ⟨.bl _, H, I', rfl, by rw [hh]; exact q2⟩⟩
    | none =>
    simp only [inO, hI] at e
    obtain ⟨l, e1, e⟩ := Option.bind_eq_some_iff.mp e
    obtain ⟨ks, e2, rfl⟩ := Option.map_eq_some_iff.mp e
    obtain ⟨p, kvs, rfl, hp, r⟩ := hb.dict (asR_none e1) (asDI_none e1)
    obtain ⟨q, rfl, hq⟩ := ha.key e2
    obtain rfl : u = .ref p := ry
    have g : DGet H p (.ref q) (valV kvs (ks.map Sum.inl)) := DGet.t hp hq
    have hh := r.has (k := ks) e1
    exact ⟨fun q2 => d_in (by omega) I g rx fun s' I' => ⟨.bl _, H, I', rfl, by rw [hh]; exact q2⟩, fun q2 => d_notIn (by omega) I g rx fun s' I' => ⟨.bl _, H, I', rfl, by rw [hh]; exact q2⟩⟩
  | _ => cases e
theorem cm_ok (o : Cm) (hu : X.A.units + 65 < cLine) : OpR X (compareOp (toCmp o)) (rCm X.K o) := by
  intro pins s σ H x y v u Q I rx ry h
  obtain ⟨S, a, b, k, ha, hb, e, q⟩ := h
  cases o with
  | eq =>
    simp only [cm] at e
    split at e
    · rename_i h
      cases e
      obtain ⟨h1, h2⟩ := eqOk_lay h
      exact op_eqD (by omega) pins s σ H _ _ v u Q I rx ry ⟨a, b, ha.dps h1, hb.dps h2, h1, h2, q⟩
    · unfold eqD at e
      split at e
      · obtain ⟨l, e1, rfl⟩ := Option.map_eq_some_iff.mp e
        cases a with
        | dict ps =>
          have e1 : asKs ps = some l := e1
          obtain ⟨p, kvs, rfl, hp, r⟩ := ha.dict (asR_none e1) (asDI_none e1)
          obtain ⟨p2, kvs2, rfl, hp2, r2⟩ := hb.dict rfl rfl
          cases r2
          obtain rfl : v = .ref p := rx
          obtain rfl : u = .ref p2 := ry
          obtain ⟨z, hs, ks, pr, o, es, ep, ho, hx, hdt, he, hn⟩ := (show ObjOk X.prog X.w H s.heap p (.dT kvs) from I.hok p _ hp)
          obtain ⟨z2, hs2, ks2, pr2, o2, es2, ep2, ho2, hx2, hdt2, he2, hn2⟩ := (show ObjOk X.prog X.w H s.heap p2 (.dT []) from I.hok p2 _ hp2)
          have l1 : es.size = ks.length := PySem.size_of_entries he
          have l2 : kvs.length = ks.length := Paired.length pr
          have l3 : es2.size = ks2.length := PySem.size_of_entries he2
          have l4 : ([] : List (List Key × V)).length = ks2.length := Paired.length pr2
          have e2 : es2 = #[] := Array.eq_empty_of_size_eq_zero (by rw [l3, ← l4]; rfl)
          rw [e2] at hdt2
          refine eq_empty hs hs2 ho hx hdt ho2 hx2 hdt2 (by omega) ?_
          refine ⟨.bl l.isEmpty, H, I, ?_, q⟩
          have : decide (es.size = 0) = l.isEmpty := by
            rw [l1, ← l2, (r.parts e1).1]
            cases l <;> rfl
          rw [this]; rfl
        | _ => cases e1
      · cases e
  | ne =>
    simp only [cm] at e
    split at e
    · rename_i h
      cases e
      obtain ⟨h1, h2⟩ := eqOk_lay h
      exact op_neD (by omega) pins s σ H _ _ v u Q I rx ry ⟨a, b, ha.dps h1, hb.dps h2, h1, h2, q⟩
    · cases e
  | isn =>
    simp only [cm] at e
    split at e
    · rename_i h
      cases e
      have hy : y = .non := by
        have := hb.isN
        rw [h] at this
        exact of_decide_eq_true this
      exact op_isN pins s σ H _ _ v u Q I rx ry ⟨hy, by rw [ha.isN]; exact q⟩
    · obtain ⟨z, e1, e⟩ := Option.bind_eq_some_iff.mp e
      obtain ⟨z', e2, rfl⟩ := Option.map_eq_some_iff.mp e
      rw [asB_some e1] at ha
      rw [asB_some e2] at hb
      exact L2.op_isBl pins s σ H _ _ v u Q I rx ry ⟨z, z', ha.bool, hb.bool, q⟩
  | isnn =>
    simp only [cm] at e
    split at e
    · rename_i h
      cases e
      have hy : y = .non := by
        have := hb.isN
        rw [h] at this
        exact of_decide_eq_true this
      exact op_notN pins s σ H _ _ v u Q I rx ry ⟨hy, by rw [ha.isN]; exact q⟩
    · obtain ⟨z, e1, e⟩ := Option.bind_eq_some_iff.mp e
      obtain ⟨z', e2, rfl⟩ := Option.map_eq_some_iff.mp e
      rw [asB_some e1] at ha
      rw [asB_some e2] at hb
      exact L2.op_notBl pins s σ H _ _ v u Q I rx ry ⟨z, z', ha.bool, hb.bool, q⟩
  | inn => exact (inO_ok hu I rx ry ha hb e).1 q
  | nin =>
    obtain ⟨k', e2, rfl⟩ := Option.map_eq_some_iff.mp (show (inO a b).map (!·) = some k from e)
    exact (inO_ok hu I rx ry ha hb e2).2 q
  | lt => exact cmO_ok .lt I rx ry ha hb e q
  | le => exact cmO_ok .le I rx ry ha hb e q
  | gt => exact cmO_ok .gt I rx ry ha hb e q
  | ge => exact cmO_ok .ge I rx ry ha hb e q
/-! ### subscripts -/
def rIdx (K : PySem.W.Frag) : R2 := fun x y H Q => ∃ S a b d, (∀ a, S a → H a ≠ none) ∧ Rb K H S x a ∧ Rb K H S y b ∧ idxO a b = some d ∧ Fin K H S (d, .z) Q
theorem RpAll.atI {K : PySem.W.Frag} {H : Hp} {S : Ad} {vs : List V} {ds : List D} {i : Int} {d : D} (h : RpAll K H S vs ds) (e : L2.atI ds i = some d) : ∃ v, L2.atI vs i = some v ∧ Rp K H S v d := by
  obtain ⟨n, e1, e2⟩ := Option.bind_eq_some_iff.mp (show (L2.ixN ds.length i).bind (fun j => ds[j]?) = some d from e)
  obtain ⟨v, h1, h2⟩ := h.get e2
  exact ⟨v, by unfold L2.atI; rw [h.length, e1]; exact h1, h2⟩
theorem dix {value slice : Expr} {pins : List (Addr × Obj)} {s : Shared} {σ : L2.St} {H : Hp} {p : Addr} {y v1 : V} {u : Value} {S : Ad} {d : D} {Q : VK} (hu : X.A.units + 1 < cLine) (I : Inv X pins σ H s) (g : DGet H p y (some v1)) (ry : RelV y u)
    (hs : subscripted slice false (.ref p) u = operate [.ref p, u] (getItem (.ref p) u)) (hv : Rp X.K H S v1 d) (f : Fin X.K H S (d, .z) Q) (l : ∀ a, S a → H a ≠ none) : wpAny (model X.prog X.w) X.A (subscriptTail value slice (.ref p) u) (EP X pins σ Q) X.xe s := by
  refine tail_item PySem.F.slot_dict_getitem.lookup (dict_typeIs I g) hs (d_getItem hu I g ry fun w' s' I' rw' => ⟨v1, H, I', rw', f.val l hv⟩)
theorem idx_ok (hu : X.A.units + 1 < cLine) : IxR X (rIdx X.K) := by
  intro value slice pins s σ H x y v u Q I rx ry h hs
  obtain ⟨S, a, b, d, l, ha, hb, e, f⟩ := h
  have hI : ∀ {i : Int}, asI b = some i → y = .int i := fun {i} e1 => by
    rw [asI_some e1] at hb
    exact hb.int
  cases a with
  | list ds =>
    obtain ⟨i, e1, e⟩ := Option.bind_eq_some_iff.mp (show (asI b).bind (fun i => L2.atI ds i) = some d from e)
    cases hI e1
    obtain ⟨p, xs, rfl, hp, r⟩ := ha.list
    obtain ⟨w, h1, h2⟩ := r.atI e
    exact ix_list value slice pins s σ H _ _ v u Q I rx ry ⟨p, xs, i, w, rfl, rfl, SqL.of hp, h1, f.val l h2⟩ hs
  | tuple ds =>
    obtain ⟨i, e1, e⟩ := Option.bind_eq_some_iff.mp (show (asI b).bind (fun i => L2.atI ds i) = some d from e)
    cases hI e1
    obtain ⟨p, xs, rfl, hp, r⟩ := ha.tuple
    obtain ⟨w, h1, h2⟩ := r.atI e
    exact ix_tup value slice pins s σ H _ _ v u Q I rx ry ⟨p, xs, i, w, rfl, rfl, hp, h1, f.val l h2⟩ hs
  | str z =>
    obtain ⟨i, e1, e⟩ := Option.bind_eq_some_iff.mp (show (asI b).bind (fun i => if z.length ≤ lim then (L2.atI z.cps.toList i).map fun c => PyData.str ⟨#[c]⟩ else none) = some d from e)
    cases hI e1
    have hx := ha.str
    subst hx
    split at e
    · rename_i hz
      obtain ⟨c, e2, rfl⟩ := Option.map_eq_some_iff.mp e
      exact ix_str value slice pins s σ H _ _ v u Q I rx ry ⟨z, i, c, rfl, rfl, le_line hz, e2, f.val l (.str _)⟩ hs
    · cases e
  | dict kvs =>
    have e0 : (match asR (.dict kvs) with
      | some xs => (asI b).bind fun i => L2.atI xs i
      | none => match asDI kvs with
        | some l => (asI b).bind fun k => ifind l k
        | none => (asKs kvs).bind fun l => (keyO b).bind fun k => dfind l k) = some d := e
    split at e0
    rotate_left
    · cases hDI : asDI kvs with
      | some ll =>
        rw [hDI] at e0
        obtain ⟨k, e2, e3⟩ := Option.bind_eq_some_iff.mp (show ((asI b).bind fun k => ifind ll k) = some d from e0)
        obtain ⟨p, ws, rfl, hp, r⟩ := ha.dictI hDI
        rw [asI_some e2] at hb
        have hy := hb.int
        subst hy
        rw [asDI_inv hDI] at r
        obtain ⟨v1, h1, h2⟩ := r.find e3
        obtain rfl : v = .ref p := rx
        have g : DGet H p (.int k) (some v1) := .inl ⟨ws, Sum.inl k, .inl hp, rfl, h1.symm⟩
        exact dix hu I g ry hs h2 f l
      | none =>
      rw [hDI] at e0
      obtain ⟨ll, e1, e⟩ := Option.bind_eq_some_iff.mp (show ((asKs kvs).bind fun l => (keyO b).bind fun k => dfind l k) = some d from e0)
      obtain ⟨k, e2, e3⟩ := Option.bind_eq_some_iff.mp e
      obtain ⟨p, ws, rfl, hp, r⟩ := ha.dict (asR_none e1) (asDI_none e1)
      obtain ⟨q, rfl, hq⟩ := hb.key e2
      obtain ⟨v1, h1, h2⟩ := r.find e1 e3
      obtain rfl : v = .ref p := rx
      have g : DGet H p (.ref q) (some v1) := by
        have := DGet.t (k := k.map Sum.inl) hp hq
        rw [h1] at this
        exact this
      exact dix hu I g ry hs h2 f l
    rename_i xs e2
    obtain ⟨i, e1, e⟩ := Option.bind_eq_some_iff.mp e0
    cases hI e1
    rw [asR_some e2] at ha
    obtain ⟨p, ys, rfl, hp, r⟩ := ha.scr
    obtain ⟨w, h1, h2⟩ := r.atI e
    exact ix_list value slice pins s σ H _ _ v u Q I rx ry ⟨p, ys, i, w, rfl, rfl, hp.sq, h1, f.val l h2⟩ hs
  | none => obtain ⟨i, _, e⟩ := Option.bind_eq_some_iff.mp (show (asI b).bind (fun i => (none : Option (List D)).bind fun xs => L2.atI xs i) = some d from e); cases e
  | bool z => obtain ⟨i, _, e⟩ := Option.bind_eq_some_iff.mp (show (asI b).bind (fun i => (none : Option (List D)).bind fun xs => L2.atI xs i) = some d from e); cases e
  | int z => obtain ⟨i, _, e⟩ := Option.bind_eq_some_iff.mp (show (asI b).bind (fun i => (none : Option (List D)).bind fun xs => L2.atI xs i) = some d from e); cases e
/-! ### slices -/
def rSli (K : PySem.W.Frag) : V → Option Int → Option Int → Hp → VK → Prop := fun x lo hi H Q => ∃ S a r, (∀ a, S a → H a ≠ none) ∧ Rb K H S x a ∧ slO a lo hi = some r ∧ Fin K H S r Q
theorem RpAll.cut {K : PySem.W.Frag} {H : Hp} {S : Ad} {vs : List V} {ds : List D} (h : RpAll K H S vs ds) (lo hi : Option Int) : RpAll K H S (cutV vs lo hi) (cutD ds lo hi) := by
  unfold cutV cutD
  rw [h.length]
  exact (h.drop _).take _
theorem sli_ok : SlR X (rSli X.K) := by
  intro pins s σ H x v vl vu lo hi sl Q I rx hs h1 h2 h
  obtain ⟨S, a, r, l, ha, e, f⟩ := h
  cases a with
  | list ds =>
    cases e
    obtain ⟨p, xs, rfl, hp, r⟩ := ha.list
    exact sl_list pins s σ H _ v vl vu lo hi sl Q I rx hs h1 h2 ⟨p, xs, rfl, SqL.of hp, fun q hq => f.lst l hq (r.cut lo hi)⟩
  | dict kvs =>
    obtain ⟨xs, e2, rfl⟩ := Option.map_eq_some_iff.mp e
    rw [asR_some e2] at ha
    obtain ⟨p, ys, rfl, hp, r⟩ := ha.scr
    exact sl_list pins s σ H _ v vl vu lo hi sl Q I rx hs h1 h2 ⟨p, ys, rfl, hp.sq, fun q hq => f.lst l hq (r.cut lo hi)⟩
  | none => cases e
  | bool z => cases e
  | int z => cases e
  | str z => cases e
  | tuple z => cases e
end
end Pv

set_option Elab.async false
set_option linter.all false
set_option maxRecDepth 100000
/-! Pv2b: built-in functions on values. -/
namespace Pv
open PySem L2 PyProof.Rows
inductive RbAll (K : PySem.W.Frag) (H : Hp) (S : Ad) : List V → List D → Prop
  | nil : RbAll K H S [] []
  | cons {v : V} {vs : List V} {d : D} {ds : List D} : Rb K H S v d → RbAll K H S vs ds → RbAll K H S (v :: vs) (d :: ds)
theorem RbAll.grow {K : PySem.W.Frag} {H H' : Hp} {S S' : Ad} (g : Gr H S H' S') : ∀ {vs : List V} {ds : List D}, RbAll K H S vs ds → RbAll K H' S' vs ds
  | _, _, .nil => .nil
  | _, _, .cons r t => .cons (r.grow g) (RbAll.grow g t)
theorem RbAll.one {K : PySem.W.Frag} {H : Hp} {S : Ad} {vs : List V} {d : D} (h : RbAll K H S vs [d]) : ∃ v, vs = [v] ∧ Rb K H S v d := by
  cases h with
  | cons r t => cases t; exact ⟨_, rfl, r⟩
theorem RbAll.two {K : PySem.W.Frag} {H : Hp} {S : Ad} {vs : List V} {d e : D} (h : RbAll K H S vs [d, e]) : ∃ v w, vs = [v, w] ∧ Rb K H S v d ∧ Rb K H S w e := by
  cases h with
  | cons r t => cases t with
    | cons r2 t2 => cases t2; exact ⟨_, _, rfl, r, r2⟩
/-- what is asked of a built-in's call -/
def rBi (K : PySem.W.Frag) (f : Bi) : List V → Hp → VK → Prop := fun vs H Q => ∃ S ds r, (∀ a, S a → H a ≠ none) ∧ RbAll K H S vs ds ∧ biO f ds = some r ∧ Fin K H S r Q
def rBi1 (K : PySem.W.Frag) (f : Bi) : List V → Hp → VK → Prop := fun vs H Q => ∃ S v d r, (∀ a, S a → H a ≠ none) ∧ vs = [v] ∧ Rb K H S v d ∧ bi1 f d = some r ∧ Fin K H S r Q
section
variable {K : PySem.W.Frag} {H : Hp} {S : Ad}
theorem rBi_one {f : Bi} {vs : List V} {Q : VK} (h2 : ∀ i j, bi2 f i j = none) (h : rBi K f vs H Q) : rBi1 K f vs H Q := by
  obtain ⟨S, ds, r, l, ra, e, q⟩ := h
  cases ra with
  | nil => cases e
  | cons r1 t => cases t with
    | nil => exact ⟨S, _, _, _, l, rfl, r1, e, q⟩
    | cons r2 t2 => cases t2 with
      | nil =>
        obtain ⟨i, _, e⟩ := Option.bind_eq_some_iff.mp e
        obtain ⟨j, _, e⟩ := Option.bind_eq_some_iff.mp e
        rw [h2] at e; cases e
      | cons => cases e
theorem intsO_some : ∀ {ds : List D} {ns : List Int}, intsO ds = some ns → ds = ns.map .int
  | [], ns, h => by cases h; rfl
  | d :: ds, ns, h => by
    cases d <;> first
      | cases h
      | (obtain ⟨ms, e1, rfl⟩ := Option.map_eq_some_iff.mp h
         rw [intsO_some e1]; rfl)
theorem RpAll.toInts : ∀ {ns : List Int} {vs : List V}, RpAll K H S vs (ns.map .int) → vs = ns.map V.int
  | [], _, h => by cases h; rfl
  | n :: ns, _, h => by
    cases h with
    | cons r t =>
      have := Rb.int (.inr r)
      rw [this, RpAll.toInts t]; rfl
theorem boolsO_some : ∀ {ds : List D} {ns : List Bool}, boolsO ds = some ns → ds = ns.map .bool
  | [], ns, h => by cases h; rfl
  | d :: ds, ns, h => by
    cases d <;> first
      | cases h
      | (obtain ⟨ms, e1, rfl⟩ := Option.map_eq_some_iff.mp h
         rw [boolsO_some e1]; rfl)
theorem RpAll.toBools : ∀ {ns : List Bool} {vs : List V}, RpAll K H S vs (ns.map .bool) → vs = ns.map V.bl
  | [], _, h => by cases h; rfl
  | n :: ns, _, h => by
    cases h with
    | cons r t =>
      have := Rb.bool (.inr r)
      rw [this, RpAll.toBools t]; rfl
end
section
variable {X : Cx}
theorem bi_len : CallR X (.builtin "len") (rBi X.K .len) := by
  intro pins s σ H xs us Q I r h
  obtain ⟨S, v, d, p, l, rfl, rb, e, f⟩ := rBi_one (fun _ _ => rfl) h
  obtain ⟨n, e1, rfl⟩ := Option.map_eq_some_iff.mp (show (lenO d).map (fun (n : Nat) => (PyData.int (n : Int), Os.z)) = some p from e)
  have fin : ∀ m : Nat, m = n → Q (.int m) H := fun m e => by rw [e]; exact f.val l (.int _)
  cases d with
  | list ds =>
    cases e1
    obtain ⟨a, ys, rfl, ha, r1⟩ := rb.list
    exact call_len_seq pins s σ H _ us Q I r ⟨a, ys, rfl, .inl (SqL.of ha), fin _ r1.length⟩
  | tuple ds =>
    cases e1
    obtain ⟨a, ys, rfl, ha, r1⟩ := rb.tuple
    exact call_len_seq pins s σ H _ us Q I r ⟨a, ys, rfl, .inr ha, fin _ r1.length⟩
  | str z =>
    simp only [lenO] at e1
    split at e1
    · rename_i hz
      cases e1
      have := rb.str
      subst this
      exact call_len_str pins s σ H _ us Q I r ⟨z, rfl, le_line hz, fin _ rfl⟩
    · cases e1
  | dict kvs =>
    have e0 : (match asR (.dict kvs) with
      | some xs => some xs.length
      | none => match asDI kvs with
        | some l => some l.length
        | none => (asKs kvs).map (·.length)) = some n := e1
    split at e0
    rotate_left
    · cases hDI : asDI kvs with
      | some ll =>
        rw [hDI] at e0
        obtain ⟨a, ws, rfl, hp, r1⟩ := rb.dictI hDI
        rw [asDI_inv hDI] at r1
        have en : ll.length = n := Option.some.inj e0
        have := fin ws.length (by rw [r1.len]; exact en)
        exact call_lenD pins s σ H _ us Q I r ⟨a, ws, rfl, hp, this⟩
      | none =>
      rw [hDI] at e0
      have e0 : (asKs kvs).map (·.length) = some n := e0
      obtain ⟨ll, e2, rfl⟩ := Option.map_eq_some_iff.mp e0
      obtain ⟨a, ws, rfl, hp, r1⟩ := rb.dict (asR_none e2) (asDI_none e2)
      exact call_len_dT pins s σ H _ us Q I r ⟨a, ws, rfl, hp, fin _ (r1.parts e2).1⟩
    rename_i ds e2
    cases e0
    rw [asR_some e2] at rb
    obtain ⟨a, ys, rfl, ha, r1⟩ := rb.scr
    exact call_len_seq pins s σ H _ us Q I r ⟨a, ys, rfl, .inl ha.sq, fin _ r1.length⟩
  | _ => cases e1
theorem bi_abs : CallR X (.builtin "abs") (rBi X.K .abs) := by
  intro pins s σ H xs us Q I r h
  obtain ⟨S, v, d, p, l, rfl, rb, e, f⟩ := rBi_one (fun _ _ => rfl) h
  obtain ⟨i, e1, e2⟩ := Option.bind_eq_some_iff.mp (show (asI d).bind _ = some p from e)
  cases e2
  rw [asI_some e1] at rb
  have := rb.int
  subst this
  exact call_abs pins s σ H _ us Q I r ⟨i, rfl, f.val l (.int _)⟩
theorem RpI.vals {K : PySem.W.Frag} {H : Hp} {S : Ad} : ∀ {l : List (Int × D)} {kvs : List (Key × V)}, RpI K H S kvs (dkI l) → RpAll K H S (kvs.map fun kv => kV kv.1) (l.map fun p => PyData.int p.1)
  | [], _, h => by rw [h.invN rfl]; exact .nil
  | p :: l, _, h => by
    obtain ⟨v, kvs', rfl, _, t⟩ := h.invC rfl
    exact .cons (.int _) (RpI.vals t)
theorem bi_list (hc : X.calm = true) : CallR X (.type "list") (rBi X.K .list) := by
  intro pins s σ H xs us Q I r h
  obtain ⟨S, v, d, p, l, rfl, rb, e, f⟩ := rBi_one (fun _ _ => rfl) h
  cases d with
  | list ds =>
    cases e
    obtain ⟨a, ys, rfl, ha, r1⟩ := rb.list
    exact call_list_of pins s σ H _ us Q I r ⟨a, ys, rfl, .inl (SqL.of ha), fun q hq => f.lst l hq r1⟩
  | tuple ds =>
    cases e
    obtain ⟨a, ys, rfl, ha, r1⟩ := rb.tuple
    exact call_list_of pins s σ H _ us Q I r ⟨a, ys, rfl, .inr ha, fun q hq => f.lst l hq r1⟩
  | dict ps =>
    obtain ⟨ll, e1, e2⟩ := Option.map_eq_some_iff.mp (show ((asDI ps).map fun l => (PyData.list (l.map fun p => .int p.1), Os.f)) = some p from e)
    cases e2
    obtain ⟨a, kvs, rfl, hp, rk⟩ := rb.dictI e1
    rw [asDI_inv e1] at rk
    exact call_list_dK hc pins s σ H _ us Q I r ⟨a, kvs, rfl, hp, fun q hq => f.lst l hq rk.vals⟩
  | _ => cases e
theorem bi_int : CallR X (.type "int") (rBi X.K .int) := by
  intro pins s σ H xs us Q I r h
  obtain ⟨S, v, d, p, l, rfl, rb, e, f⟩ := rBi_one (fun _ _ => rfl) h
  cases d with
  | int i =>
    cases e
    have := rb.int
    subst this
    exact call_int1 pins s σ H _ us Q I r (.inl ⟨i, rfl, f.val l (.int _)⟩)
  | bool b =>
    cases e
    have := rb.bool
    subst this
    exact call_int1 pins s σ H _ us Q I r (.inr ⟨b, rfl, f.val l (.int _)⟩)
  | _ => cases e
theorem bi_str : CallR X (.type "str") (rBi X.K .str) := by
  intro pins s σ H xs us Q I r h
  obtain ⟨S, v, d, p, l, rfl, rb, e, f⟩ := rBi_one (fun _ _ => rfl) h
  obtain ⟨i, e1, e2⟩ := Option.bind_eq_some_iff.mp (show (asI d).bind _ = some p from e)
  rw [asI_some e1] at rb
  have := rb.int
  subst this
  have e2 : (if i.natAbs.log2 < 1920 then some (PyData.str (toString i : String), Os.z) else none) = some p := e2
  split at e2
  · rename_i hz
    cases e2
    exact call_str_int pins s σ H _ us Q I r ⟨i, rfl, hz, f.val l (.str _)⟩
  · cases e2
theorem bi_sum (hc : X.calm = true) : CallR X (.builtin "sum") (rBi X.K .sum) := by
  intro pins s σ H xs us Q I r h
  obtain ⟨S, v, d, p, l, rfl, rb, e, f⟩ := rBi_one (fun _ _ => rfl) h
  obtain ⟨ds, e1, e2⟩ := Option.bind_eq_some_iff.mp (show (asL d).bind _ = some p from e)
  obtain ⟨ns, e4, e3⟩ := Option.bind_eq_some_iff.mp e2
  cases e3
  rw [asL_some e1, intsO_some e4] at rb
  obtain ⟨a, ys, rfl, ha, r1⟩ := rb.list
  rw [r1.toInts] at ha
  exact cr_sum hc pins s σ H _ us Q I r ⟨a, ns, rfl, SqL.of ha, f.val l (.int _)⟩
theorem bi_all (hc : X.calm = true) : CallR X (.builtin "all") (rBi X.K .all) := by
  intro pins s σ H xs us Q I r h
  obtain ⟨S, v, d, p, l, rfl, rb, e, f⟩ := rBi_one (fun _ _ => rfl) h
  obtain ⟨ds, e1, e2⟩ := Option.bind_eq_some_iff.mp (show (asL d).bind _ = some p from e)
  obtain ⟨ns, e4, e3⟩ := Option.map_eq_some_iff.mp e2
  subst e3
  rw [asL_some e1, boolsO_some e4] at rb
  obtain ⟨a, ys, rfl, ha, r1⟩ := rb.list
  rw [r1.toBools] at ha
  exact cr_all hc pins s σ H _ us Q I r ⟨a, ns, rfl, SqL.of ha, f.val l (.bl _)⟩
def rBi2 (K : PySem.W.Frag) (f : Bi) : List V → Hp → VK → Prop := fun vs H Q => ∃ S i j r, (∀ a, S a → H a ≠ none) ∧ vs = [V.int i, V.int j] ∧ bi2 f i j = some r ∧ Fin K H S r Q
theorem rBi_two {K : PySem.W.Frag} {H : Hp} {f : Bi} {vs : List V} {Q : VK} (h1 : ∀ d, bi1 f d = none) (h : rBi K f vs H Q) : rBi2 K f vs H Q := by
  obtain ⟨S, ds, r, l, ra, e, q⟩ := h
  cases ra with
  | nil => cases e
  | cons r1 t => cases t with
    | nil => rw [show biO f [_] = bi1 f _ from rfl, h1] at e; cases e
    | cons r2 t2 => cases t2 with
      | nil =>
        obtain ⟨i, e1, e⟩ := Option.bind_eq_some_iff.mp e
        obtain ⟨j, e2, e⟩ := Option.bind_eq_some_iff.mp e
        rw [asI_some e1] at r1
        rw [asI_some e2] at r2
        exact ⟨S, i, j, r, l, by rw [r1.int, r2.int], e, q⟩
      | cons => cases e
theorem bi_max2 (hc : X.calm = true) : CallR X (.builtin "max") (rBi X.K .max2) := by
  intro pins s σ H xs us Q I r h
  obtain ⟨S, i, j, p, l, rfl, e, f⟩ := rBi_two (fun _ => rfl) h
  cases e
  exact call_max2 hc pins s σ H _ us Q I r ⟨i, j, rfl, f.val l (.int _)⟩
theorem bi_min2 (hc : X.calm = true) : CallR X (.builtin "min") (rBi X.K .min2) := by
  intro pins s σ H xs us Q I r h
  obtain ⟨S, i, j, p, l, rfl, e, f⟩ := rBi_two (fun _ => rfl) h
  cases e
  exact call_min2 hc pins s σ H _ us Q I r ⟨i, j, rfl, f.val l (.int _)⟩
end
/-! ### the greatest, the least of data -/
section
variable {X : Cx} {pins : List (Addr × Obj)} {s : Shared} {σ : L2.St} {H : Hp} {S : Ad}
/-- as the library reads data -/
theorem Rb.reads (I : Inv X pins σ H s) {v : V} {u : Value} {d : D} (h : Rb X.K H S v d) (l : PyData.noDict d = true) (r : RelV v u) : ∃ as, Reads s.heap u d as := Dp.reads I d v u (Rb.dpn l h) r
theorem RpAll.readsE (I : Inv X pins σ H s) : ∀ {vs : List V} {us : List Value} {ds : List D}, RpAll X.K H S vs ds → PyData.noDictAll ds = true → Vals vs us → ∃ as, ReadsAll s.heap us ds as := fun {vs us ds} h l r => Dp.readsAll I ds vs us (RpAll.dpn _ _ l h) r
theorem all2 {ds : List D} {p : D → D → Bool} (h : (ds.all fun a => ds.all fun b => p a b) = true) : ∀ a ∈ ds, ∀ b ∈ ds, p a b = true := fun a ha b hb => List.all_eq_true.mp (List.all_eq_true.mp h a ha) b hb
mutual
theorem lay_alike : ∀ d : D, PySem.W.alike d d = true → PyData.noDict d = true
  | .none, _ => rfl
  | .bool _, _ => rfl
  | .int _, _ => rfl
  | .str _, _ => rfl
  | .list xs, h => lays_alike xs (by simpa [PySem.W.alike] using h)
  | .tuple xs, h => lays_alike xs (by simpa [PySem.W.alike] using h)
  | .dict _, h => by simp [PySem.W.alike] at h
theorem lays_alike : ∀ ds : List D, PySem.W.alikeAll ds ds = true → PyData.noDictAll ds = true
  | [], _ => rfl
  | d :: ds, h => by
    simp only [PySem.W.alikeAll, Bool.and_eq_true] at h
    show (PyData.noDict d && PyData.noDictAll ds) = true
    rw [lay_alike d h.1, lays_alike ds h.2]; rfl
end
theorem lays_all : ∀ {ds : List D}, (∀ d ∈ ds, PySem.W.alike d d = true) → PyData.noDictAll ds = true
  | [], _ => rfl
  | d :: ds, h => by
    show (PyData.noDict d && PyData.noDictAll ds) = true
    rw [lay_alike d (h d List.mem_cons_self), lays_all fun x hx => h x (List.mem_cons_of_mem _ hx)]; rfl
theorem depths_le : ∀ {ds : List D}, (∀ d ∈ ds, d.depth ≤ 64) → PyData.depthAll ds ≤ 64
  | [], _ => by simp [PyData.depthAll]
  | d :: ds, h => by
    have h1 := h d List.mem_cons_self
    have h2 := depths_le (ds := ds) fun x hx => h x (List.mem_cons_of_mem _ hx)
    simp only [PyData.depthAll]
    omega
theorem alikeOk_of {ds : List D} (h : alikeOk ds = true) : (∀ a ∈ ds, ∀ b ∈ ds, PySem.W.alike a b = true) ∧ (∀ a ∈ ds, a.depth ≤ 64) ∧ ∀ a ∈ ds, a ≠ .none := by
  simp only [alikeOk, Bool.and_eq_true] at h
  refine ⟨all2 h.1, fun a ha => ?_, fun a ha e => ?_⟩
  · have := List.all_eq_true.mp h.2 a ha
    simp only [Bool.and_eq_true, decide_eq_true_eq] at this
    exact this.1
  · have := List.all_eq_true.mp h.2 a ha
    rw [e] at this
    simp [isNone] at this
theorem maxD_mem (x : D) : ∀ (xs : List D), PySem.W.maxD x xs ∈ x :: xs := by
  intro xs
  unfold PySem.W.maxD
  induction xs generalizing x with
  | nil => simp
  | cons y r ih =>
    rw [List.foldl_cons]
    have := ih (if PySem.W.dataLt x y = true then y else x)
    split at this <;> rename_i hc <;> simp only [hc, if_true, Bool.false_eq_true, if_false] <;> rcases List.mem_cons.mp this with e | e <;> first
      | (rw [e]; simp; done)
      | exact List.mem_cons_of_mem _ (List.mem_cons_of_mem _ e)
theorem minD_mem (x : D) : ∀ (xs : List D), PySem.W.minD x xs ∈ x :: xs := by
  intro xs
  unfold PySem.W.minD
  induction xs generalizing x with
  | nil => simp
  | cons y r ih =>
    rw [List.foldl_cons]
    have := ih (if PySem.W.dataLt y x = true then y else x)
    split at this <;> rename_i hc <;> simp only [hc, if_true, Bool.false_eq_true, if_false] <;> rcases List.mem_cons.mp this with e | e <;> first
      | (rw [e]; simp; done)
      | exact List.mem_cons_of_mem _ (List.mem_cons_of_mem _ e)
/-- the i-th value, which reads as m, one of the data -/
theorem pick_ok (I : Inv X pins σ H s) {xs : List V} {its : List Value} {ds : List D} {m : D} {i : Nat} {u : Value} {h' : Heap} {tk : Nat} {bs : List Addr} {Q : VK} (r : RpAll X.K H S xs ds) (rv : Vals xs its) (hu : its[i]? = some u)
    (rd : Reads h' u m bs) (kp : ∀ b o, s.heap.get? b = some o → h'.get? b = some o) (hm : m ∈ ds) (al : ∀ a ∈ ds, ∀ b ∈ ds, PySem.W.alike a b = true) (f : Fin X.K H S (m, .z) Q) (l : ∀ a, S a → H a ≠ none) : EP X pins σ Q u { s with heap := h', toks := tk } := by
  have hi : i < xs.length := by rw [rv.length]; exact (List.getElem?_eq_some_iff.mp hu).1
  have hv : xs[i]? = some xs[i] := List.getElem?_eq_getElem hi
  obtain ⟨u', h1, h2⟩ := rv.get hv
  rw [hu] at h1; cases h1
  obtain ⟨d, h3, h4⟩ := r.getV hv
  have hd : d ∈ ds := List.mem_of_getElem? h3
  obtain ⟨as, q⟩ := Rb.reads I (.inr h4) (lay_alike d (al d hd d hd)) h2
  have e : d = m := PySem.W.alike_unique d m u as bs (al d hd m hm) (PyProof.Rows.Reads.keeps kp q) rd
  subst e
  exact ⟨xs[i], H, I.kept kp, h2, f.val l h4⟩
end
section
variable {X : Cx}
theorem bi_max (hc : X.calm = true) (hu : X.A.units + 200 < cLine) : CallR X (.builtin "max") (rBi X.K .maxl) := by
  intro pins s σ H xs us Q I r h
  obtain ⟨S, v, d, p, l, rfl, rb, e, f⟩ := rBi_one (fun _ _ => rfl) h
  obtain ⟨ds, e1, e2⟩ := Option.bind_eq_some_iff.mp (show (asL d).bind _ = some p from e)
  obtain ⟨m, e3, rfl⟩ := Option.map_eq_some_iff.mp e2
  rw [asL_some e1] at rb
  obtain ⟨a, ys, rfl, ha, r1⟩ := rb.list
  cases ds with
  | nil => cases e3
  | cons x r2 =>
    have e3 : (if alikeOk (x :: r2) then some (PySem.W.maxD x r2) else none) = some m := e3
    split at e3
    · rename_i hz
      cases e3
      obtain ⟨al, dp, nn⟩ := alikeOk_of hz
      rw [Vals.ref1 r]
      obtain ⟨its, rv, pl, _⟩ := I.list (SqL.of ha)
      obtain ⟨as, rd⟩ := RpAll.readsE I r1 (lays_all fun d hd => al d hd d hd) rv
      have hd := depths_le dp
      refine PySem.W.max_list_data (I.ok.hd hc) pl.isList rd ⟨al, nn⟩ (by omega) fun i u h' tk bs hu rd' kp => ?_
      exact pick_ok I r1 rv (by simpa using hu) rd' kp (maxD_mem x r2) al f l
    · cases e3
theorem bi_min (hc : X.calm = true) (hu : X.A.units + 200 < cLine) : CallR X (.builtin "min") (rBi X.K .minl) := by
  intro pins s σ H xs us Q I r h
  obtain ⟨S, v, d, p, l, rfl, rb, e, f⟩ := rBi_one (fun _ _ => rfl) h
  obtain ⟨ds, e1, e2⟩ := Option.bind_eq_some_iff.mp (show (asL d).bind _ = some p from e)
  obtain ⟨m, e3, rfl⟩ := Option.map_eq_some_iff.mp e2
  rw [asL_some e1] at rb
  obtain ⟨a, ys, rfl, ha, r1⟩ := rb.list
  cases ds with
  | nil => cases e3
  | cons x r2 =>
    have e3 : (if alikeOk (x :: r2) then some (PySem.W.minD x r2) else none) = some m := e3
    split at e3
    · rename_i hz
      cases e3
      obtain ⟨al, dp, nn⟩ := alikeOk_of hz
      rw [Vals.ref1 r]
      obtain ⟨its, rv, pl, _⟩ := I.list (SqL.of ha)
      obtain ⟨as, rd⟩ := RpAll.readsE I r1 (lays_all fun d hd => al d hd d hd) rv
      have hd := depths_le dp
      refine PySem.W.min_list_data (I.ok.hd hc) pl.isList rd ⟨al, nn⟩ (by omega) fun i u h' tk bs hu rd' kp => ?_
      exact pick_ok I r1 rv (by simpa using hu) rd' kp (minD_mem x r2) al f l
    · cases e3
/-! ### sorted -/
theorem sortOk_of {ds : List D} (h : sortOk ds = true) : (∀ a ∈ ds, ∀ b ∈ ds, PySem.W.alike a b = true) ∧ (∀ a ∈ ds, a.depth ≤ 64) ∧ PySem.W.Sortable ds := by
  simp only [sortOk, Bool.and_eq_true, Bool.or_eq_true] at h
  refine ⟨all2 h.1.1, fun a ha => of_decide_eq_true (List.all_eq_true.mp h.1.2 a ha), ?_⟩
  rcases h.2 with h | h
  · refine .inl fun d hd => ?_
    have := List.all_eq_true.mp h d hd
    split at this
    · exact ⟨_, _, rfl⟩
    · cases this
  · refine .inr fun d hd => ?_
    have := List.all_eq_true.mp h d hd
    refine ⟨fun e => ?_, fun xs e => ?_⟩ <;> rw [e] at this <;> cases this
theorem each_zip {K : PySem.W.Frag} {H : Hp} {S : Ad} : ∀ {xs : List V} {us : List Value} {ds : List D}, RpAll K H S xs ds → Vals xs us → PySem.W.EachIs (fun (u : Value) (b : V × D) => RelV b.1 u ∧ Rp K H S b.1 b.2) us (xs.zip ds)
  | _, _, _, .nil, .nil => .nil
  | _, _, _, .cons r t, .cons q w => .cons ⟨q, r⟩ (each_zip t w)
theorem each_vals {K : PySem.W.Frag} {H : Hp} {S : Ad} : ∀ {us : List Value} {bs : List (V × D)}, PySem.W.EachIs (fun (u : Value) (b : V × D) => RelV b.1 u ∧ Rp K H S b.1 b.2) us bs → Vals (bs.map (·.1)) us ∧ RpAll K H S (bs.map (·.1)) (bs.map (·.2))
  | _, _, .nil => ⟨.nil, .nil⟩
  | _, _, .cons h t => ⟨.cons h.1 (each_vals t).1, .cons h.2 (each_vals t).2⟩
theorem zip_snd {α β : Type} : ∀ {xs : List α} {ys : List β}, xs.length = ys.length → (xs.zip ys).map (·.2) = ys
  | [], [], _ => rfl
  | _ :: xs, _ :: ys, h => by simp [zip_snd (xs := xs) (ys := ys) (by simpa using h)]
  | [], _ :: _, h => by simp at h
  | _ :: _, [], h => by simp at h
def rSorL (K : PySem.W.Frag) : List V → Hp → VK → Prop := fun vs H Q => ∃ S v d p, (∀ a, S a → H a ≠ none) ∧ vs = [v] ∧ Rb K H S v d ∧ onL (fun xs => if sortOk xs && decide (xs.length ≤ lim) then some (.list (sortD xs), .f) else none) d = some p ∧ Fin K H S p Q
theorem bi_sorted0 (hu : X.A.units + 200 < cLine) : CallR X (.builtin "sorted") (rSorL X.K) := by
  intro pins s σ H xs us Q I r h
  obtain ⟨S, v, d, p, l, rfl, rb, e, f⟩ := h
  obtain ⟨ds, e1, e2⟩ := Option.bind_eq_some_iff.mp (show (asL d).bind _ = some p from e)
  have e2 : (if sortOk ds && decide (ds.length ≤ lim) then some (PyData.list (sortD ds), Os.f) else none) = some p := e2
  split at e2
  · rename_i hz
    cases e2
    rw [Bool.and_eq_true, decide_eq_true_eq] at hz
    obtain ⟨al, dp, so⟩ := sortOk_of hz.1
    rw [asL_some e1] at rb
    obtain ⟨a, ys, rfl, ha, r1⟩ := rb.list
    rw [Vals.ref1 r]
    obtain ⟨its, rv, pl, _⟩ := I.list (SqL.of ha)
    have hlen := r1.length
    have em : (ys.zip ds).map (·.2) = ds := zip_snd hlen
    have ez := each_zip r1 rv
    have hzl : (ys.zip ds).length = ds.length := by rw [List.length_zip]; omega
    refine PySem.W.sorted_data (enc := fun b : V × D => b.2) pl.isList ez ((PySem.W.each_mem ez).mono fun u b hb => ?_) (by rw [em]; exact fun a ha b hb => al a ha b hb) (by rw [em]; exact so) (by rw [hzl]; exact le_line hz.2) (fun b hb => ?_) fun out ho eo => ?_
    · have hb2 : b.2 ∈ ds := by rw [← em]; exact List.mem_map.mpr ⟨b, hb.2, rfl⟩
      exact Rb.reads I (.inr hb.1.2) (lay_alike _ (al _ hb2 _ hb2)) hb.1.1
    · have hb2 : b.2 ∈ ds := by rw [← em]; exact List.mem_map.mpr ⟨b, hb, rfl⟩
      have := dp _ hb2
      omega
    · obtain ⟨v1, v2⟩ := each_vals eo
      have es : ((ys.zip ds).mergeSort (PySem.W.dataLe false fun b : V × D => b.2)).map (·.2) = sortD ds := by
        unfold sortD
        rw [List.map_mergeSort (r := PySem.W.dataLe false fun b : V × D => b.2) (s := PySem.W.dataLe false id) (f := fun b : V × D => b.2) (fun a _ b _ => rfl), em]
      rw [es] at v2
      obtain ⟨ep, he⟩ := PyProof.Rows.sortedAll_at s.heap its out.toArray
      have hn : H (s.heap.objs.size + 1) = none := I.hok.fresh (Nat.le_succ _)
      refine ⟨.ref (s.heap.objs.size + 1), _, I.laid (t' := s.toks) (o := .lst (((ys.zip ds).mergeSort (PySem.W.dataLe false fun b : V × D => b.2)).map (·.1))) (fun _ _ => PyProof.Rows.sortedAll_old) (Nat.le_succ _) ⟨?_, out, ep, v1, he⟩, rfl, f.lst l hn v2⟩
      rw [v2.length]
      unfold sortD
      rw [List.length_mergeSort]
      exact le_line hz.2
  · cases e2
/-! ### sets of tuples of whole numbers -/
theorem tupsO_some : ∀ {ds : List D} {ks : List (List Int)}, tupsO ds = some ks → ds = ks.map tupI
  | [], ks, h => by cases h; rfl
  | d :: ds, ks, h => by
    cases d with
    | tuple xs =>
      obtain ⟨k, e1, e2⟩ := Option.bind_eq_some_iff.mp (show (intsO xs).bind _ = some ks from h)
      obtain ⟨ms, e3, rfl⟩ := Option.map_eq_some_iff.mp e2
      rw [tupsO_some e3, intsO_some e1]; rfl
    | _ => cases h
theorem setOk_of {ks : List (List Int)} (h : setOk ks = true) : ks.length < 64 ∧ ∀ k ∈ ks, k ≠ [] := by
  simp only [setOk, Bool.and_eq_true, decide_eq_true_eq] at h
  refine ⟨h.1, fun k hk e => ?_⟩
  have := List.all_eq_true.mp h.2 k hk
  rw [e] at this; cases this
/-- the addresses of the tuples -/
theorem tups_addr {K : PySem.W.Frag} {H : Hp} {S : Ad} : ∀ {ks : List (List Int)} {xs : List V}, RpAll K H S xs (ks.map tupI) → ∃ L : List (Addr × List Int), xs = L.map (fun p => V.ref p.1) ∧ L.map (·.2) = ks ∧ ∀ p ∈ L, H p.1 = some (.tup (p.2.map V.int))
  | [], _, h => by cases h; exact ⟨[], rfl, rfl, fun _ h => by cases h⟩
  | k :: ks, _, h => by
    cases h with
    | cons r t =>
      obtain ⟨L, e1, e2, e3⟩ := tups_addr t
      obtain ⟨a, vs, rfl, hs, r2⟩ := Rb.tupleX (.inr r)
      rw [r2.toInts] at hs
      refine ⟨(a, k) :: L, by rw [e1]; rfl, by rw [← e2]; rfl, fun p hp => ?_⟩
      rcases List.mem_cons.mp hp with rfl | hp
      · exact hs
      · exact e3 p hp
/-- a set of such tuples, just made: which -/
def rSet (K : PySem.W.Frag) (P : Program) (w : World) (ks : List (List Int)) (x : V) (H0 H : Hp) : Prop :=
  ∃ (a : Addr) (L : List (Addr × List Int)), x = .ref a ∧ H0 a = none ∧ H = upd H0 a (SetTO P w a L) ∧ (∀ p ∈ L, H p.1 = some (.tup (p.2.map V.int))) ∧ (∀ p ∈ L, p.2 ∈ ks) ∧ (∀ k ∈ ks, k ∈ L.map (·.2))
def rMkSet (K : PySem.W.Frag) (P : Program) (w : World) : List V → Hp → VK → Prop := fun vs H Q => ∃ S v ds ks, vs = [v] ∧ Rb K H S v (.list ds) ∧ tupsO ds = some ks ∧ setOk ks = true ∧ ∀ x H', rSet K P w ks x H H' → Q x H'
theorem bi_mkSet (hc : X.calm = true) (hu : X.A.units + 200 < cLine) : CallR X (.type "set") (rMkSet X.K X.prog X.w) := by
  intro pins s σ H xs us Q I r h
  obtain ⟨S, v, ds, ks, rfl, rb, e1, e2, q⟩ := h
  rw [tupsO_some e1] at rb
  obtain ⟨a, ys, rfl, ha, r1⟩ := rb.list
  obtain ⟨L, rfl, e3, e4⟩ := tups_addr r1
  obtain ⟨h64, _⟩ := setOk_of e2
  refine cr_setOfT hc (by omega) pins s σ H _ us Q I r ⟨a, L, rfl, SqL.of ha, fun p hp => .inl (.inl (e4 p hp)), by rw [← List.length_map (f := (·.2)), e3]; exact h64, fun b L' hb hs ht => q _ _ ⟨b, L', rfl, hb, rfl, fun p hp => ?_, fun p hp => ?_, fun k hk => ?_⟩⟩
  · exact (show Kp H S (upd H b (SetTO X.prog X.w b L')) S from ⟨fun _ h => h, fun c o _ h => by rw [upd_ne (ne_of_none h hb)]; exact h, fun c o h _ => by rw [upd_ne (ne_of_none h hb)]; exact h⟩).tup (e4 p (hs p hp))
  · rw [← e3]; exact List.mem_map.mpr ⟨p, hs p hp, rfl⟩
  · rw [← e3] at hk
    obtain ⟨p, hp, rfl⟩ := List.mem_map.mp hk
    exact ht p hp
end
end Pv

set_option Elab.async false
set_option linter.all false
set_option maxRecDepth 100000
/-! Pv2c: sets of tuples of whole numbers: sorted, counted. -/
namespace Pv
open PySem L2 PyProof.Rows
theorem dataLt_tups (x y : List Int) : PySem.W.dataLt (tupI x) (tupI y) = decide (x < y) := by
  unfold tupI
  rw [PySem.W.dataLt_tuple]
  exact PySem.W.dataLt_ints x y
theorem dataLe_tups (k : Addr × List Int → List Int) : PySem.W.dataLe false (fun p => tupI (k p)) = fun p q => decide (k p ≤ k q) := by
  funext p q
  show (!PySem.W.dataLt (tupI (k q)) (tupI (k p))) = _
  rw [dataLt_tups]
  by_cases h : k q < k p
  · have h' : ¬ k p ≤ k q := fun r => List.not_lt.mpr r h
    simp [h, h']
  · have h' : k p ≤ k q := List.not_lt.mp h
    simp [h, h']
theorem mem_eraseDups' {α : Type} [BEq α] [LawfulBEq α] {a : α} {l : List α} : a ∈ l.eraseDups ↔ a ∈ l := List.mem_eraseDups
/-- two lists of the same members, none twice -/
theorem perm_of_mem {l m : List (List Int)} (h1 : l.Nodup) (h2 : m.Nodup) (h : ∀ k, k ∈ l ↔ k ∈ m) : l.Perm m := (List.perm_ext_iff_of_nodup h1 h2).mpr h
theorem nodup_eraseDups {α : Type} [BEq α] [LawfulBEq α] : ∀ (n : Nat) (l : List α), l.length ≤ n → l.eraseDups.Nodup
  | _, [], _ => by simp
  | 0, _ :: _, h => by simp at h
  | n + 1, a :: as, h => by
    rw [List.eraseDups_cons]
    refine List.nodup_cons.mpr ⟨fun hm => ?_, nodup_eraseDups n _ ?_⟩
    · rw [List.mem_eraseDups, List.mem_filter] at hm
      simp at hm
    · have := List.length_filter_le (fun b => !b == a) as
      simp only [List.length_cons] at h
      omega
theorem leI_trans (a b c : List Int) (h1 : decide (a ≤ b) = true) (h2 : decide (b ≤ c) = true) : decide (a ≤ c) = true := by
  rw [decide_eq_true_eq] at *
  exact List.le_trans h1 h2
theorem leI_total (a b : List Int) : (decide (a ≤ b) || decide (b ≤ a)) = true := by
  rw [Bool.or_eq_true, decide_eq_true_eq, decide_eq_true_eq]
  exact List.le_total a b
theorem leI_anti (a b : List Int) (h1 : decide (a ≤ b) = true) (h2 : decide (b ≤ a) = true) : a = b := by
  rw [decide_eq_true_eq] at *
  exact List.le_antisymm h1 h2
/-- sorting forgets the order -/
theorem sort_perm {l m : List (List Int)} (h : l.Perm m) : l.mergeSort (fun a b => decide (a ≤ b)) = m.mergeSort (fun a b => decide (a ≤ b)) := by
  have p1 := List.pairwise_mergeSort leI_trans leI_total l
  have p2 := List.pairwise_mergeSort leI_trans leI_total m
  have pm : (l.mergeSort fun a b => decide (a ≤ b)).Perm (m.mergeSort fun a b => decide (a ≤ b)) := (List.mergeSort_perm l _).trans (h.trans (List.mergeSort_perm m _).symm)
  exact List.Perm.eq_of_pairwise (fun a b _ _ h1 h2 => leI_anti a b h1 h2) p1 p2 pm
section
variable {P : Program} {w : World} {A : Around} {E : Value → Shared → Prop} {s : Shared}
/-- sorted(set): a new list of the addresses, by their tuples -/
theorem sorted_setD {a : Addr} {L : List (Addr × List Int)} {es : Array (Int × Value)} {ep : Nat} {t : SetTable} {Q : Value → Shared → Prop} (R : SetTR P w s.heap a L es ep t) (hh : A.handled = none) (hu : A.units + 200 < cLine) (hne : ∀ p ∈ L, p.2 ≠ [])
    (hQ : ∀ (s' : Shared) (p : Addr) (out : List Value) (c : Nat) (L' : List (Addr × List Int)), (∀ b o, s.heap.get? b = some o → s'.heap.get? b = some o) → s'.gens = s.gens → s'.os = s.os → s.heap.objs.size ≤ p →
      s'.heap.get? p = some (seqObj "list" out.toArray c) → out = L'.map (fun q => Value.ref q.1) → (∀ q ∈ L', q ∈ L) → L'.map (·.2) = (L.map (·.2)).mergeSort (fun a b => decide (a ≤ b)) → Q (.ref p) s') :
    wpAny (model P w) A (call (.builtin "sorted") [.ref a]) Q E s := by
  obtain ⟨o, ho, hex, hd⟩ := R.ob
  have hsz := R.size
  have hfew := R.few
  refine Calls.call_function_entry kind_sorted plain_sorted entry_sorted (args_sorted1 _) ?_
  unfold Builtin.«sorted»
  refine wpAny_bind (m := checkCount "sorted" 1 1 _) (wpAny_pure ?_)
  refine wpAny_bind (collect_set (A := A.in1) hh ⟨o, ho, hex.1, hd⟩ R.fits (by unfold scanBound; omega) R.tab.ris R.led fun s1 vs k1 hz g1 o1 pm => ?_)
  have hes : es.toList.map (·.2) = L.map fun q => Value.ref q.1 := by
    rw [R.rows]; unfold rowsOf; rw [List.map_map]; rfl
  rw [hes] at pm
  -- the values, in some order, as rows
  have rows : ∀ vs : List Value, (∀ v ∈ vs, ∃ q ∈ L, v = Value.ref q.1) → ∃ L1 : List (Addr × List Int), vs = L1.map (fun q => Value.ref q.1) ∧ ∀ q ∈ L1, q ∈ L := by
    intro vs
    induction vs with
    | nil => exact fun _ => ⟨[], rfl, fun q hq => by cases hq⟩
    | cons v vs ih =>
      intro hv
      obtain ⟨q, hq, e⟩ := hv v List.mem_cons_self
      obtain ⟨L1, e1, hs⟩ := ih fun u hu => hv u (List.mem_cons_of_mem _ hu)
      exact ⟨q :: L1, by rw [e, e1]; rfl, fun r hr => (List.mem_cons.mp hr).elim (fun z => z ▸ hq) (hs r)⟩
  obtain ⟨L1, e1, hs1⟩ := rows vs fun v hv => by
    obtain ⟨q, hq, e⟩ := List.mem_map.mp (pm.mem_iff.mp hv)
    exact ⟨q, hq, e.symm⟩
  have one : ∀ q ∈ L, ∀ r ∈ L, q.1 = r.1 → q = r := fun q hq r hr e => by
    have a1 := R.tup q hq
    rw [e] at a1
    exact Prod.ext e (a1.inj (R.tup r hr))
  have nL : L.Nodup := List.Pairwise.of_map _ (fun _ _ h e => h (congrArg (·.2) e)) R.nd
  have nref : (L.map fun q => Value.ref q.1).Nodup := List.pairwise_map.mpr (List.Pairwise.imp_of_mem (fun {q r} hq hr h e => by injection e with e; exact h (one q hq r hr e)) nL)
  have n1 : L1.Nodup := by
    have : (L1.map fun q => Value.ref q.1).Nodup := by rw [← e1]; exact pm.nodup_iff.mpr nref
    exact List.Pairwise.of_map _ (fun _ _ h e => h (by rw [e])) this
  have pL : L1.Perm L := (List.perm_ext_iff_of_nodup n1 nL).mpr fun q => ⟨hs1 q, fun hq => by
    have hm : Value.ref q.1 ∈ vs := pm.mem_iff.mpr (List.mem_map.mpr ⟨q, hq, rfl⟩)
    rw [e1] at hm
    obtain ⟨r, hr, e⟩ := List.mem_map.mp hm
    injection e with e
    rw [← one r (hs1 r hr) q hq e]; exact hr⟩
  have hvl : vs.length < 64 := by rw [pm.length_eq, List.length_map]; exact hfew
  have hl1 : L1.length = vs.length := by rw [e1, List.length_map]
  refine wpAny_bind (wpAny_newList ?_ (by rw [sizeLine_eq]; omega))
  have hoL : (s1.heap.push (seqObj "list" vs.toArray 0)).get? s1.heap.objs.size = some (seqObj "list" vs.toArray 0) := Heap.get?_push_size _ rfl
  have tk : ∀ q ∈ L, ∃ as, Reads (s1.heap.push (seqObj "list" vs.toArray 0)) (.ref q.1) (tupI q.2) as ∧ s1.heap.objs.size ∉ as := fun q hq => by
    have x : IsT P w (s1.heap.push (seqObj "list" vs.toArray 0)) q.2 q.1 := isT_keep (R.tup q hq) fun b u e => Heap.get?_push_of_some _ (k1 b u e)
    obtain ⟨ob, its, n, h1, h2, h3, h4⟩ := x
    have : ∀ {k : List Int} {us : List Value} {h : Heap}, ItemsAre (intKind P w) k us → ReadsAll h us (k.map .int) [] := by
      intro k us h x
      induction x with
      | nil => exact .nil
      | cons hv _ ih =>
        obtain ⟨t, rfl⟩ := Value.isInt_shape hv
        exact .cons (as := []) (bs := []) (.int _ t) ih
    exact ⟨[], .tuple h1 h2 h3 (this h4), by simp⟩
  have ez : PySem.W.EachIs (fun (u : Value) (q : Addr × List Int) => u = .ref q.1 ∧ q ∈ L) vs L1 := by
    rw [e1]
    clear e1 hl1 n1 pL
    induction L1 with
    | nil => exact .nil
    | cons q r ih => exact .cons ⟨rfl, hs1 q List.mem_cons_self⟩ (ih fun x hx => hs1 x (List.mem_cons_of_mem _ hx))
  refine wpAny_bind (wpAny_holding (PySem.W.list_sort_data (s := { s1 with heap := s1.heap.push (seqObj "list" vs.toArray 0) }) (enc := fun q : Addr × List Int => tupI q.2) hoL ez (ez.mono fun u q hq => by rw [hq.1]; exact tk q hq.2) ?_ ?_ ?_ ?_ fun out a1 a2 => ?_))
  · exact PySem.W.AllAlike.of fun b b' => by
      show PySem.W.alike (.tuple _) (.tuple _) = true
      simp only [PySem.W.alike]
      exact PySem.W.alike_ints _ _
  · refine .inl fun d hd => ?_
    obtain ⟨q, hq, rfl⟩ := List.mem_map.mp hd
    have := hne q (hs1 q hq)
    obtain ⟨x, r, e⟩ := List.exists_cons_of_ne_nil this
    exact ⟨.int x, r.map .int, by show tupI q.2 = _; rw [e]; rfl⟩
  · rw [hl1, sizeLine_eq]; omega
  · intro q _
    have : (tupI q.2).depth = 1 := by
      show PyData.depth (.tuple _) = 1
      simp only [PyData.depth]
      rw [PySem.W.depth_ints]
    rw [this]
    show A.in1.units + 1 + 1 < cLine
    have : A.in1.units = A.units + 1 := rfl
    omega
  · obtain ⟨c, hc⟩ := sortedHeap_at (vs := vs) (out := out.toArray) hoL
    have e2 : out = (L1.mergeSort (PySem.W.dataLe false fun q : Addr × List Int => tupI q.2)).map (fun q => Value.ref q.1) := by
      clear hc a1
      generalize L1.mergeSort (PySem.W.dataLe false fun q : Addr × List Int => tupI q.2) = M at a2
      induction a2 with
      | nil => rfl
      | cons h t ih => rw [h.1, ih]; rfl
    refine wpAny_pure ⟨_, rfl, hQ _ s1.heap.objs.size out c (L1.mergeSort (PySem.W.dataLe false fun q : Addr × List Int => tupI q.2)) (fun b u e => ?_) g1 o1 hz hc e2 (fun q hq => hs1 q (List.mem_mergeSort.mp hq)) ?_⟩
    · have q := k1 b u e
      have hlt := Heap.lt_size q
      show (sortedHeap (s1.heap.push (seqObj "list" vs.toArray 0)) s1.heap.objs.size vs out.toArray).get? b = some u
      rw [sortedHeap_old (Nat.ne_of_lt hlt) (by rw [size_push']; exact Nat.lt_succ_of_lt hlt)]
      exact Heap.get?_push_of_some _ q
    · rw [dataLe_tups (fun q => q.2), List.map_mergeSort (r := fun p q : Addr × List Int => decide (p.2 ≤ q.2)) (s := fun a b => decide (a ≤ b)) (f := fun q : Addr × List Int => q.2) (fun a _ b _ => rfl)]
      exact sort_perm (pL.map (·.2))
end
/-! ### by values -/
section
variable {X : Cx}
structure SetV (K : PySem.W.Frag) (P : Program) (w : World) (ks : List (List Int)) (H : Hp) (a : Addr) (L : List (Addr × List Int)) : Prop where
  at_ : H a = some (SetTO P w a L)
  tup : ∀ p ∈ L, H p.1 = some (.tup (p.2.map V.int))
  sub : ∀ p ∈ L, p.2 ∈ ks
  all : ∀ k ∈ ks, k ∈ L.map (·.2)
def rSorS (K : PySem.W.Frag) (P : Program) (w : World) : List V → Hp → VK → Prop := fun vs H Q => ∃ S a L ks, vs = [V.ref a] ∧ (∀ a, S a → H a ≠ none) ∧ SetV K P w ks H a L ∧ setOk ks = true ∧ Fin K H S (.list ((sortTup ks).map tupI), .f) Q
theorem set_perm {P : Program} {w : World} {h : Heap} {a : Addr} {L : List (Addr × List Int)} {es : Array (Int × Value)} {ep : Nat} {t : SetTable} {ks : List (List Int)} (R : SetTR P w h a L es ep t) (h1 : ∀ p ∈ L, p.2 ∈ ks) (h2 : ∀ k ∈ ks, k ∈ L.map (·.2)) : (L.map (·.2)).Perm ks.eraseDups :=
  perm_of_mem R.nd (nodup_eraseDups _ ks (Nat.le_refl _)) fun k => ⟨fun hk => by
    obtain ⟨p, hp, rfl⟩ := List.mem_map.mp hk
    exact List.mem_eraseDups.mpr (h1 p hp), fun hk => h2 k (List.mem_eraseDups.mp hk)⟩
theorem bi_sortSet (hc : X.calm = true) (hu : X.A.units + 200 < cLine) : CallR X (.builtin "sorted") (rSorS X.K X.prog X.w) := by
  intro pins s σ H vs us Q I r h
  obtain ⟨S, a, L, ks, rfl, l, sv, ok, f⟩ := h
  obtain ⟨h64, hne⟩ := setOk_of ok
  have R0 : SetT0 X.prog X.w s.heap a L := (I.hok a _ sv.at_).1
  obtain ⟨es, ep, t, R⟩ := R0.full fun p hp => I.isT (.inl (.inl (sv.tup p hp)))
  rw [Vals.ref1 r]
  refine sorted_setD R (I.ok.hd hc) hu (fun p hp => hne _ (sv.sub p hp)) fun s' p out c L' k g o hp hg hout hs hL => ?_
  have hn : H p = none := I.hok.fresh hp
  have hv : Vals (L'.map fun q => V.ref q.1) out := by rw [hout]; exact vals_of_refs L'
  have ek : L'.map (·.2) = sortTup ks := by
    rw [hL]
    exact sort_perm (set_perm R sv.sub sv.all)
  have hlen : (L'.map fun q => V.ref q.1).length ≤ sizeLine := by
    rw [List.length_map, ← List.length_map (f := (·.2)) (as := L'), hL, List.length_mergeSort, List.length_map, sizeLine_eq]
    have := R.few
    omega
  have rp : RpAll X.K H S (L'.map fun q => V.ref q.1) ((sortTup ks).map tupI) := by
    rw [← ek]
    clear ek hL hout hv hlen
    induction L' with
    | nil => exact .nil
    | cons q r ih => exact .cons (.tup (sv.tup q (hs q List.mem_cons_self)) (RpAll.ints _)) (ih fun x hx => hs x (List.mem_cons_of_mem _ hx))
  have J : Inv X pins σ (upd H p (.lst (L'.map fun q => V.ref q.1))) { s with heap := s'.heap, gens := s'.gens, drawn := s'.drawn, toks := s'.toks } :=
    I.call (ch := []) (Un.laid k hp hn) (I.hok.laid k hp ⟨hlen, out, c, hv, hg⟩) (by rw [g]; exact I.bare) (fun _ z => nomatch z)
  have e : s' = { s with heap := s'.heap, gens := s'.gens, drawn := s'.drawn, toks := s'.toks } := by
    cases s'; cases s; cases o; rfl
  rw [e]
  exact ⟨.ref p, _, J, rfl, f.lst l hn rp⟩
def rLenS (K : PySem.W.Frag) (P : Program) (w : World) : List V → Hp → VK → Prop := fun vs H Q => ∃ a L ks, vs = [V.ref a] ∧ SetV K P w ks H a L ∧ Q (.int (ks.eraseDups.length : Nat)) H
theorem bi_lenSet : CallR X (.builtin "len") (rLenS X.K X.prog X.w) := by
  intro pins s σ H vs us Q I r h
  obtain ⟨a, L, ks, rfl, sv, q⟩ := h
  have R0 : SetT0 X.prog X.w s.heap a L := (I.hok a _ sv.at_).1
  obtain ⟨es, ep, t, R⟩ := R0.full fun p hp => I.isT (.inl (.inl (sv.tup p hp)))
  rw [Vals.ref1 r]
  obtain ⟨o, ho, hex, hd⟩ := R.ob
  have hsz := R.size
  have hfew := R.few
  have e : es.size = ks.eraseDups.length := by rw [hsz, ← (set_perm R sv.sub sv.all).length_eq, List.length_map]
  exact call_len_set ho hex hd R.fits (by omega) ⟨.int _, H, I.tok _, ⟨_, by rw [e]⟩, q⟩
/-! ### sorted(d) -/
theorem keysL {K : PySem.W.Frag} {H : Hp} : ∀ {kvs : List (List Key × V)} {xs : List (List Key × Addr × Value)} {l : List (List Int × D)}, KT H kvs xs → kvs.map (·.1) = l.map (fun p => p.1.map Sum.inl) →
    ∃ L : List (Addr × List Int), (xs.map fun x => Value.ref x.2.1) = L.map (fun q => Value.ref q.1) ∧ L.map (·.2) = l.map (·.1) ∧ ∀ q ∈ L, H q.1 = some (.tup (q.2.map V.int))
  | [], _, l, r, e => by
    cases r
    cases l with
    | nil => exact ⟨[], rfl, rfl, fun q h => by cases h⟩
    | cons _ _ => cases e
  | kv :: kvs, _, l, r, e => by
    cases r with
    | @cons _ x _ xs h t =>
      cases l with
      | nil => cases e
      | cons p l =>
        simp only [List.map_cons, List.cons.injEq] at e
        obtain ⟨L, e1, e2, e3⟩ := keysL (K := K) t e.2
        refine ⟨(x.2.1, p.1) :: L, by rw [List.map_cons, e1]; rfl, by rw [List.map_cons, e2]; rfl, fun q hq => ?_⟩
        rcases List.mem_cons.mp hq with rfl | hq
        · have := h.2.1
          rw [e.1, kV_ints] at this
          exact this
        · exact e3 q hq
theorem sort_keys (hc : X.calm = true) (hu : X.A.units + 200 < cLine) {pins : List (Addr × Obj)} {s : Shared} {σ : L2.St} {H : Hp} {Q : VK} {a : Addr} {kvs : List (List Key × V)} {ps : List (D × D)} {l : List (List Int × D)} {S : Ad} (I : Inv X pins σ H s)
    (hp : H a = some (.dT kvs)) (r : RpK X.K H S kvs ps) (el : asKs ps = some l) (ok : setOk (l.map (·.1)) = true) (lv : ∀ a, S a → H a ≠ none)
    (f : Fin X.K H S (.list (((l.map (·.1)).mergeSort fun a b => decide (a ≤ b)).map tupI), .f) Q) : wpAny (model X.prog X.w) X.A (call (.builtin "sorted") [.ref a]) (EP X pins σ Q) X.xe s := by
  obtain ⟨h64, hne⟩ := setOk_of ok
  obtain ⟨z, hs, ks, pr, o, es, ep, ho, hx, hdt, he, hn⟩ := (show ObjOk X.prog X.w H s.heap a (.dT kvs) from I.hok a _ hp)
  have l1 : es.size = ks.length := PySem.size_of_entries he
  have l2 : kvs.length = ks.length := Paired.length pr
  have l3 := (r.parts el).1
  rw [List.length_map] at h64
  have h16 : es.size ≤ sizeLine := by rw [sizeLine_eq]; omega
  obtain ⟨L, eL1, eL2, eL3⟩ := keysL (K := X.K) pr (r.parts el).2.1
  have lL : L.length = l.length := by rw [← List.length_map (f := (·.2)), eL2, List.length_map]
  refine Calls.call_function_entry kind_sorted plain_sorted entry_sorted (args_sorted1 _) ?_
  unfold Builtin.«sorted»
  refine wpAny_bind (m := checkCount "sorted" 1 1 _) (wpAny_pure ?_)
  refine wpAny_bind (PySem.W.kdu_collect (A := X.A.in1) (kdl_raw hs hx hdt) (I.ok.hd hc) ho h16 fun h' tk acc hk hacc => ?_)
  have ea : acc.toList = ks.map fun x => Value.ref x.2.1 := by
    have hl : acc.toList.length = ks.length := by rw [Array.length_toList, hacc.1]; exact l1
    refine List.ext_getElem? fun j => ?_
    rw [List.getElem?_map]
    cases hj : acc.toList[j]? with
    | none => rw [List.getElem?_eq_none (by have := List.getElem?_eq_none_iff.mp hj; omega)]; rfl
    | some v =>
      obtain ⟨en, hen, hv⟩ := hacc.2 j v (by rw [← Array.getElem?_toList]; exact hj)
      have qe := entry_at he j
      rw [hen] at qe
      cases hb : ks[j]? with
      | none => rw [hb] at qe; cases qe
      | some b =>
        rw [hb] at qe
        rw [hv, Option.some.inj qe]; rfl
  rw [eL1] at ea
  have I1 : Inv X pins σ H { s with heap := h', toks := tk } := I.kept hk
  have hal : acc.toList.length = L.length := by rw [ea, List.length_map]
  refine wpAny_bind (wpAny_newList ?_ (by rw [sizeLine_eq]; omega))
  show wpAny _ _ _ _ _ { s with heap := h'.push (seqObj "list" acc.toList.toArray 0), toks := tk }
  have hoL : (h'.push (seqObj "list" acc.toList.toArray 0)).get? h'.objs.size = some (seqObj "list" acc.toList.toArray 0) := Heap.get?_push_size _ rfl
  have rd : ∀ q ∈ L, ∃ as, Reads (h'.push (seqObj "list" acc.toList.toArray 0)) (.ref q.1) (tupI q.2) as ∧ h'.objs.size ∉ as := fun q hq => by
    have x : IsT X.prog X.w (h'.push (seqObj "list" acc.toList.toArray 0)) q.2 q.1 := isT_keep (I1.isT (.inl (.inl (eL3 q hq)))) fun b u e => Heap.get?_push_of_some _ e
    obtain ⟨ob, its, n, h1, h2, h3, h4⟩ := x
    have : ∀ {k : List Int} {us : List Value} {h : Heap}, ItemsAre (intKind X.prog X.w) k us → ReadsAll h us (k.map .int) [] := by
      intro k us h x
      induction x with
      | nil => exact .nil
      | cons hv _ ih =>
        obtain ⟨t, rfl⟩ := Value.isInt_shape hv
        exact .cons (as := []) (bs := []) (.int _ t) ih
    exact ⟨[], .tuple h1 h2 h3 (this h4), by simp⟩
  have ez : PySem.W.EachIs (fun (u : Value) (q : Addr × List Int) => u = .ref q.1 ∧ q ∈ L) acc.toList L := by
    have go : ∀ M : List (Addr × List Int), (∀ q ∈ M, q ∈ L) → PySem.W.EachIs (fun (u : Value) (q : Addr × List Int) => u = .ref q.1 ∧ q ∈ L) (M.map fun q => Value.ref q.1) M := by
      intro M
      induction M with
      | nil => exact fun _ => .nil
      | cons q M ih => exact fun h => .cons ⟨rfl, h q List.mem_cons_self⟩ (ih fun x hx => h x (List.mem_cons_of_mem _ hx))
    rw [ea]
    exact go L fun q h => h
  have inK : ∀ q ∈ L, q.2 ∈ l.map (·.1) := fun q hq => by rw [← eL2]; exact List.mem_map.mpr ⟨q, hq, rfl⟩
  refine wpAny_bind (wpAny_holding (PySem.W.list_sort_data (s := { s with heap := h'.push (seqObj "list" acc.toList.toArray 0), toks := tk }) (enc := fun q : Addr × List Int => tupI q.2) hoL ez (ez.mono fun u q hq => by rw [hq.1]; exact rd q hq.2) ?_ ?_ ?_ ?_ fun out a1 a2 => ?_))
  · exact PySem.W.AllAlike.of fun b b' => by
      show PySem.W.alike (.tuple _) (.tuple _) = true
      simp only [PySem.W.alike]
      exact PySem.W.alike_ints _ _
  · refine .inl fun d hd => ?_
    obtain ⟨q, hq, rfl⟩ := List.mem_map.mp hd
    obtain ⟨x, t, e⟩ := List.exists_cons_of_ne_nil (hne _ (inK q hq))
    exact ⟨.int x, t.map .int, by show tupI q.2 = _; rw [e]; rfl⟩
  · rw [sizeLine_eq]; omega
  · intro q _
    have : (tupI q.2).depth = 1 := by
      show PyData.depth (.tuple _) = 1
      simp only [PyData.depth]
      rw [PySem.W.depth_ints]
    rw [this]
    show X.A.in1.units + 1 + 1 < cLine
    have : X.A.in1.units = X.A.units + 1 := rfl
    omega
  · obtain ⟨c, hcc⟩ := sortedHeap_at (vs := acc.toList) (out := out.toArray) hoL
    generalize hM : L.mergeSort (PySem.W.dataLe false fun q : Addr × List Int => tupI q.2) = M at a2
    have e2 : out = M.map (fun q => Value.ref q.1) := by
      clear hcc a1 hM
      induction a2 with
      | nil => rfl
      | cons h t ih => rw [h.1, ih]; rfl
    have mM : ∀ q ∈ M, q ∈ L := fun q hq => by rw [← hM] at hq; exact List.mem_mergeSort.mp hq
    have eK : M.map (·.2) = (l.map (·.1)).mergeSort fun a b => decide (a ≤ b) := by
      rw [← hM, dataLe_tups (fun q => q.2), List.map_mergeSort (r := fun p q : Addr × List Int => decide (p.2 ≤ q.2)) (s := fun a b => decide (a ≤ b)) (f := fun q : Addr × List Int => q.2) (fun a _ b _ => rfl), eL2]
    have lM : M.length = L.length := by rw [← hM, List.length_mergeSort]
    have hn : H h'.objs.size = none := I1.hok.fresh (Nat.le_refl _)
    have rp : RpAll X.K H S (M.map fun q => V.ref q.1) (((l.map (·.1)).mergeSort fun a b => decide (a ≤ b)).map tupI) := by
      rw [← eK]
      clear eK e2 lM hcc a1 a2 hM
      induction M with
      | nil => exact .nil
      | cons q t ih => exact .cons (.tup (eL3 q (mM q List.mem_cons_self)) (RpAll.ints _)) (ih fun x hx => mM x (List.mem_cons_of_mem _ hx))
    refine wpAny_pure ⟨_, rfl, .ref h'.objs.size, upd H h'.objs.size (.lst (M.map fun q => V.ref q.1)), I1.laid (t' := tk) (fun b u e => ?_) (Nat.le_refl _) ⟨?_, out, c, ?_, hcc⟩, rfl, f.lst lv hn rp⟩
    · have hlt := Heap.lt_size e
      show (sortedHeap (h'.push (seqObj "list" acc.toList.toArray 0)) h'.objs.size acc.toList out.toArray).get? b = some u
      rw [sortedHeap_old (Nat.ne_of_lt hlt) (by rw [size_push']; exact Nat.lt_succ_of_lt hlt)]
      exact Heap.get?_push_of_some _ e
    · rw [List.length_map, sizeLine_eq]; omega
    · rw [e2]; exact vals_of_refs M
theorem bi_sorted (hc : X.calm = true) (hu : X.A.units + 200 < cLine) : CallR X (.builtin "sorted") (rBi X.K .sorted) := by
  intro pins s σ H vs us Q I r h
  obtain ⟨S, v, d, p, lv, rfl, rb, e, f⟩ := rBi_one (fun _ _ => rfl) h
  cases d with
  | dict ps =>
    obtain ⟨l, e1, e⟩ := Option.bind_eq_some_iff.mp (show ((asKs ps).bind fun l => if setOk (l.map (·.1)) then some (PyData.list (((l.map (·.1)).mergeSort fun a b => decide (a ≤ b)).map tupI), Os.f) else none) = some p from e)
    split at e
    · rename_i ok
      cases e
      obtain ⟨a, kvs, rfl, hp, rk⟩ := rb.dict (asR_none e1) (asDI_none e1)
      rw [Vals.ref1 r]
      exact sort_keys hc hu I hp rk e1 ok lv f
    · cases e
  | list ds => exact bi_sorted0 hu pins s σ H _ us Q I r ⟨S, v, _, p, lv, rfl, rb, e, f⟩
  | _ => cases e
end
end Pv

set_option Elab.async false
set_option linter.all false
set_option maxRecDepth 100000
/-! Pv3: expressions: what a code comes to is what the expression gives. -/
namespace Pv
open PySem L2 PyProof.Rows
variable {X : Cx} {Φ : Ph}
theorem pe_w {e : Expr} {t t' : TE} (h : PE X e t) (w : ∀ σ H Q, t' σ H Q → t σ H Q) : PE X e t' := ⟨fun pins s σ H Q I q => h.run pins s σ H Q I (w σ H Q q)⟩
theorem pt_w {e : Expr} {t t' : TT} (h : PT X e t) (w : ∀ σ H Q, t' σ H Q → t σ H Q) : PT X e t' := ⟨fun pins s σ H Q I q => h.run pins s σ H Q I (w σ H Q q)⟩
theorem pw_w {e : Expr} {t t' : TT} (h : PW X e t) (w : ∀ σ H Q, t' σ H Q → t σ H Q) : PW X e t' := ⟨fun wh pins s σ H Q I q => h.run wh pins s σ H Q I (w σ H Q q)⟩
theorem pa_w {e : List Expr} {t t' : TA} (h : PA X e t) (w : ∀ σ H Q, t' σ H Q → t σ H Q) : PA X e t' := ⟨fun pos pins s σ H Q I q => h.run pos pins s σ H Q I (w σ H Q q)⟩
theorem po_w {e : Option Expr} {t t' : TO} (h : PO X e t) (w : ∀ σ H Q, t' σ H Q → t σ H Q) : PO X e t' := ⟨fun pins s σ H Q I q => h.run pins s σ H Q I (w σ H Q q)⟩
/-- an expression's code -/
def tE (K : PySem.W.Frag) (Φ : Ph) (c : C) : TE := fun σ H Q => ∃ S ρ r, Rep K σ H S ρ ∧ ev Φ c ρ = some r ∧ ∀ v H' S', Gr H S H' S' → Rs K H H' S' r v → Q v H'
def tT (K : PySem.W.Frag) (Φ : Ph) (c : C) : TT := fun σ H Q => ∃ S ρ r b, Rep K σ H S ρ ∧ ev Φ c ρ = some r ∧ asB r.1 = some b ∧ ∀ H' S', Gr H S H' S' → Q b H'
def tAs (K : PySem.W.Frag) (Φ : Ph) (c : C) : TA := fun σ H Q => ∃ S ρ ds, Rep K σ H S ρ ∧ evs Φ c ρ = some ds ∧ ∀ vs H' S', Gr H S H' S' → RpAll K H' S' vs ds → Q vs H'
def tAb (K : PySem.W.Frag) (Φ : Ph) (c : C) : TA := fun σ H Q => ∃ S ρ ds, Rep K σ H S ρ ∧ evb Φ c ρ = some ds ∧ ∀ vs H' S', Gr H S H' S' → RbAll K H' S' vs ds → Q vs H'
def tO (K : PySem.W.Frag) (Φ : Ph) (c : C) : TO := fun σ H Q => ∃ S ρ o, Rep K σ H S ρ ∧ evo Φ c ρ = some o ∧ ∀ H' S', Gr H S H' S' → Q o H'
section
variable {K : PySem.W.Frag} {σ : L2.St} {H : Hp} {c a b : C} {Q : VK}
/-- from a code's reading: the state, the value -/
theorem tE_of {S : Ad} {ρ : Rho} {r : D × Os} (R : Rep K σ H S ρ) (e : ev Φ c ρ = some r) (q : ∀ v H' S', Gr H S H' S' → Rs K H H' S' r v → Rep K σ H' S' ρ → Q v H') : tE K Φ c σ H Q :=
  ⟨S, ρ, r, R, e, fun v H' S' g rs => q v H' S' g rs (R.grow g)⟩
theorem tT_of {S : Ad} {ρ : Rho} {r : D × Os} {k : Bool} {Q : Bool → Hp → Prop} (R : Rep K σ H S ρ) (e : ev Φ c ρ = some r) (eb : asB r.1 = some k) (q : ∀ H' S', Gr H S H' S' → Rep K σ H' S' ρ → Q k H') : tT K Φ c σ H Q :=
  ⟨S, ρ, r, k, R, e, eb, fun H' S' g => q H' S' g (R.grow g)⟩
end
/-! ### names, constants -/
theorem se_var {i : Nat} {x : Str} {pos : Pos} (h : PE X (.Name x pos) (tVar i)) : PE X (.Name x pos) (tE X.K Φ (.var i)) := pe_w h fun σ H Q ⟨S, ρ, r, R, e, q⟩ => by
  simp only [ev] at e
  split at e
  · rename_i d e0
    cases e
    obtain ⟨v, e1, e2⟩ := R.val i _ _ e0
    have e2' : Rp X.K H S v d := by simpa using e2
    exact ⟨v, e1, q v H S (Gr.refl R.live) e2'⟩
  · rename_i d e0
    split at e
    · rename_i hs
      cases e
      obtain ⟨v, e1, e2⟩ := R.lookV e0
      exact ⟨v, e1, q v H S (Gr.refl R.live) (e2.scal hs)⟩
    · cases e
  · cases e
theorem se_brw {i : Nat} {x : Str} {pos : Pos} (h : PE X (.Name x pos) (tVar i)) : PE X (.Name x pos) (tE X.K Φ (.brw i)) := pe_w h fun σ H Q ⟨S, ρ, r, R, e, q⟩ => by
  simp only [ev] at e
  split at e
  · rename_i d o e0
    cases e
    obtain ⟨v, e1, e2⟩ := R.lookV e0
    exact ⟨v, e1, q v H S (Gr.refl R.live) e2⟩
  · cases e
theorem se_cst {e : Expr} {v : V} {d : D} (h : PE X e (tC v)) (r : ∀ K H S, Rp K H S v d) : PE X e (tE X.K Φ (.cst d)) := pe_w h fun σ H Q ⟨S, ρ, p, R, e, q⟩ => by
  cases e
  exact q v H S (Gr.refl R.live) (r _ _ _)
/-! ### operators -/
variable {a b c : Expr} {ca cb cc : C} {pos : Pos}
theorem se_bin {o : Op2} (ha : PE X a (tE X.K Φ ca)) (hb : PE X b (tE X.K Φ cb)) : PE X (.BinOp a (toOp o) b pos) (tE X.K Φ (.bin o ca cb)) := pe_w (pe_op (op2_ok o) ha hb) fun σ H Q ⟨S, ρ, r, R, e, q⟩ => by
  simp only [ev] at e
  obtain ⟨x, e1, e⟩ := Option.bind_eq_some_iff.mp e
  obtain ⟨y, e2, e⟩ := Option.bind_eq_some_iff.mp e
  exact tE_of R e1 fun v H1 S1 g1 r1 R1 => tE_of R1 e2 fun w H2 S2 g2 r2 R2 => ⟨S2, x.1, y.1, r, g2.live, (r1.grow g2).look, r2.look, e, fun z H3 S3 g3 r3 => q z H3 S3 ((g1.trans g2).trans g3) (by
    obtain ⟨d, os⟩ := r
    cases os with
    | z => exact r3
    | f =>
      obtain ⟨p, e1, e2, e3⟩ := r3
      exact ⟨p, e1, (g1.trans g2).fresh e2, e3⟩
    | b => exact r3)⟩
/-- the heap ahead may be an earlier one -/
theorem Rs.back {K : PySem.W.Frag} {H0 H1 H2 : Hp} {S0 S1 S2 : Ad} {r : D × Os} {v : V} (h : Rs K H1 H2 S2 r v) (g : Gr H0 S0 H1 S1) : Rs K H0 H2 S2 r v := by
  obtain ⟨d, os⟩ := r
  cases os with
  | z => exact h
  | f =>
    obtain ⟨p, e1, e2, e3⟩ := h
    exact ⟨p, e1, g.fresh e2, e3⟩
  | b => exact h
theorem Fin.of {K : PySem.W.Frag} {H H1 : Hp} {S S1 : Ad} {r : D × Os} {Q : VK} (g : Gr H S H1 S1) (q : ∀ v H' S', Gr H S H' S' → Rs K H H' S' r v → Q v H') : Fin K H1 S1 r Q := fun v H' S' g' rs => q v H' S' (g.trans g') (rs.back g)
theorem se_neg (ha : PE X a (tE X.K Φ ca)) : PE X (.UnaryOp .USub a pos) (tE X.K Φ (.neg ca)) := pe_w (pe_un un_neg ha) fun σ H Q ⟨S, ρ, r, R, e, q⟩ => by
  simp only [ev] at e
  obtain ⟨x, e1, e⟩ := Option.bind_eq_some_iff.mp e
  obtain ⟨i, e2, e3⟩ := Option.map_eq_some_iff.mp e
  subst e3
  refine tE_of R e1 fun v H1 S1 g1 r1 R1 => ?_
  have := r1.look
  rw [asI_some e2] at this
  exact ⟨i, this.int, q _ H1 S1 g1 (.int _)⟩
theorem se_not (ha : PE X a (tE X.K Φ ca)) : PE X (.UnaryOp .Not a pos) (tE X.K Φ (.not ca)) := pe_w (pe_not ha) fun σ H Q ⟨S, ρ, r, R, e, q⟩ => by
  simp only [ev] at e
  obtain ⟨x, e1, e⟩ := Option.bind_eq_some_iff.mp e
  obtain ⟨i, e2, e3⟩ := Option.map_eq_some_iff.mp e
  subst e3
  refine tE_of R e1 fun v H1 S1 g1 r1 R1 => ?_
  have := r1.look
  rw [asB_some e2] at this
  exact ⟨i, this.bool, q _ H1 S1 g1 (.bl _)⟩
/-! ### comparisons -/
theorem tCm_of {o : Cm} {K : PySem.W.Frag} {σ : L2.St} {H : Hp} {S : Ad} {ρ : Rho} {r : D × Os} {Q : VK} (R : Rep K σ H S ρ) (e : ev Φ (.cmp o ca cb) ρ = some r) (q : ∀ k H' S', r = (.bool k, .z) → Gr H S H' S' → Q (.bl k) H') : tOp (rCm K o) (tE K Φ ca) (tE K Φ cb) σ H Q := by
  simp only [ev] at e
  obtain ⟨x, e1, e⟩ := Option.bind_eq_some_iff.mp e
  obtain ⟨y, e2, e⟩ := Option.bind_eq_some_iff.mp e
  obtain ⟨k, e3, e4⟩ := Option.map_eq_some_iff.mp e
  exact tE_of R e1 fun v H1 S1 g1 r1 R1 => tE_of R1 e2 fun w H2 S2 g2 r2 R2 => ⟨S2, x.1, y.1, k, (r1.grow g2).look, r2.look, e3, q k H2 S2 e4.symm (g1.trans g2)⟩
theorem se_cmp {o : Cm} (hu : X.A.units + 65 < cLine) (ha : PE X a (tE X.K Φ ca)) (hb : PE X b (tE X.K Φ cb)) (hm : behindInMarks (toCmp o) b = false) : PE X (.Compare a [toCmp o] [b] pos) (tE X.K Φ (.cmp o ca cb)) :=
  pe_w (pe_cmpR (cm_ok o hu) ha hb hm) fun σ H Q ⟨S, ρ, r, R, e, q⟩ => tCm_of R e fun k H' S' er g => q _ H' S' g (by rw [er]; exact .bl k)
theorem st_cmp {o : Cm} (hu : X.A.units + 65 < cLine) (ha : PE X a (tE X.K Φ ca)) (hb : PE X b (tE X.K Φ cb)) (hm : behindInMarks (toCmp o) b = false) : PT X (.Compare a [toCmp o] [b] pos) (tT X.K Φ (.cmp o ca cb)) :=
  pt_w (pt_cmpR (cm_ok o hu) ha hb hm) fun σ H Q ⟨S, ρ, r, k, R, e, eb, q⟩ => tCm_of R e fun k' H' S' er g => ⟨k', rfl, by rw [er] at eb; cases eb; exact q H' S' g⟩
def rCmO (K : PySem.W.Frag) (o : Cm) : R2 := fun x y H Q => ∃ S a b k, Rb K H S x a ∧ Rb K H S y b ∧ cmO o a b = some k ∧ Q (.bl k) H
theorem cmO_rule (o : Cm) : OpR X (compareOp (toCmp o)) (rCmO X.K o) := by
  intro pins s σ H x y v u Q I rx ry h
  obtain ⟨S, a, b, k, ha, hb, e, q⟩ := h
  exact cmO_ok o I rx ry ha hb e q
theorem tCh_of {o p : Cm} {K : PySem.W.Frag} {σ : L2.St} {H : Hp} {S : Ad} {ρ : Rho} {r : D × Os} {Q : VK} (R : Rep K σ H S ρ) (e : ev Φ (.chain o p ca cb cc) ρ = some r) (q : ∀ k H' S', r = (.bool k, .z) → Gr H S H' S' → Q (.bl k) H') : tChain (rCmO K o) (rCmO K p) (tE K Φ ca) (tE K Φ cb) (tE K Φ cc) σ H Q := by
  simp only [ev] at e
  obtain ⟨x, e1, e⟩ := Option.bind_eq_some_iff.mp e
  obtain ⟨y, e2, e⟩ := Option.bind_eq_some_iff.mp e
  obtain ⟨k, e3, e⟩ := Option.bind_eq_some_iff.mp e
  refine tE_of R e1 fun v H1 S1 g1 r1 R1 => tE_of R1 e2 fun w H2 S2 g2 r2 R2 => ⟨S2, x.1, y.1, k, (r1.grow g2).look, r2.look, e3, k, rfl, ?_⟩
  cases k with
  | false =>
    simp only [Bool.false_eq_true, if_false] at e ⊢
    exact q false H2 S2 (Option.some.inj e).symm (g1.trans g2)
  | true =>
    simp only [if_true] at e ⊢
    obtain ⟨z, e4, e⟩ := Option.bind_eq_some_iff.mp e
    obtain ⟨l, e5, e6⟩ := Option.map_eq_some_iff.mp e
    exact tE_of R2 e4 fun z' H3 S3 g3 r3 R3 => ⟨S3, y.1, z.1, l, (r2.grow g3).look, r3.look, e5, q l H3 S3 e6.symm ((g1.trans g2).trans g3)⟩
theorem se_chain {o p : Cm} (ha : PE X a (tE X.K Φ ca)) (hb : PE X b (tE X.K Φ cb)) (hc : PE X c (tE X.K Φ cc)) (hm : lastMarks [toCmp o, toCmp p] [b, c] = false) : PE X (.Compare a [toCmp o, toCmp p] [b, c] pos) (tE X.K Φ (.chain o p ca cb cc)) :=
  pe_w (pe_chain (cmO_rule o) (cmO_rule p) ha hb hc hm) fun σ H Q ⟨S, ρ, r, R, e, q⟩ => tCh_of R e fun k H' S' er g => q _ H' S' g (by rw [er]; exact .bl k)
theorem st_chain {o p : Cm} (ha : PE X a (tE X.K Φ ca)) (hb : PE X b (tE X.K Φ cb)) (hc : PE X c (tE X.K Φ cc)) (hm : lastMarks [toCmp o, toCmp p] [b, c] = false) : PT X (.Compare a [toCmp o, toCmp p] [b, c] pos) (tT X.K Φ (.chain o p ca cb cc)) :=
  pt_w (pt_chain (cmO_rule o) (cmO_rule p) ha hb hc hm) fun σ H Q ⟨S, ρ, r, k, R, e, eb, q⟩ => tCh_of R e fun k' H' S' er g => ⟨k', rfl, by rw [er] at eb; cases eb; exact q H' S' g⟩
/-- a value that is a truth, as a test -/
theorem st_val (h : PE X a (tE X.K Φ ca)) (he : ∀ whole, isTrue a X.env whole = (do let v ← whole; standAt a.pos; holding [v] (truthy v))) : PT X a (tT X.K Φ ca) :=
  pt_w (pt_val h he) fun σ H Q ⟨S, ρ, r, k, R, e, eb, q⟩ => tE_of R e fun v H' S' g rs _ => by
    have := rs.look
    rw [asB_some eb] at this
    exact ⟨k, this.bool, q H' S' g⟩
/-! ### and, or -/
theorem se_and {rest : List Expr} (ha : PE X a (tE X.K Φ ca)) (hb : PE X (.BoolOp .And (b :: rest) pos) (tE X.K Φ cb)) : PE X (.BoolOp .And (a :: b :: rest) pos) (tE X.K Φ (.and ca cb)) := pe_w (pe_and ha hb) fun σ H Q ⟨S, ρ, r, R, e, q⟩ => by
  simp only [ev] at e
  obtain ⟨x, e1, e⟩ := Option.bind_eq_some_iff.mp e
  obtain ⟨k, e2, e⟩ := Option.bind_eq_some_iff.mp e
  refine tE_of R e1 fun v H1 S1 g1 r1 R1 => ?_
  have := r1.look
  rw [asB_some e2] at this
  refine ⟨k, this.bool, ?_⟩
  cases k with
  | false =>
    simp only [Bool.false_eq_true, if_false] at e ⊢
    cases e
    exact q _ H1 S1 g1 (.bl false)
  | true =>
    simp only [if_true] at e ⊢
    obtain ⟨y, e3, e⟩ := Option.bind_eq_some_iff.mp e
    obtain ⟨l, e4, e5⟩ := Option.map_eq_some_iff.mp e
    subst e5
    refine tE_of R1 e3 fun w H2 S2 g2 r2 R2 => ?_
    have := r2.look
    rw [asB_some e4] at this
    rw [this.bool]
    exact q _ H2 S2 (g1.trans g2) (.bl l)
theorem se_or {rest : List Expr} (ha : PE X a (tE X.K Φ ca)) (hb : PE X (.BoolOp .Or (b :: rest) pos) (tE X.K Φ cb)) : PE X (.BoolOp .Or (a :: b :: rest) pos) (tE X.K Φ (.or ca cb)) := pe_w (pe_or ha hb) fun σ H Q ⟨S, ρ, r, R, e, q⟩ => by
  simp only [ev] at e
  obtain ⟨x, e1, e⟩ := Option.bind_eq_some_iff.mp e
  obtain ⟨k, e2, e⟩ := Option.bind_eq_some_iff.mp e
  refine tE_of R e1 fun v H1 S1 g1 r1 R1 => ?_
  have := r1.look
  rw [asB_some e2] at this
  refine ⟨k, this.bool, ?_⟩
  cases k with
  | true =>
    simp only [if_true] at e ⊢
    cases e
    exact q _ H1 S1 g1 (.bl true)
  | false =>
    simp only [Bool.false_eq_true, if_false] at e ⊢
    obtain ⟨y, e3, e⟩ := Option.bind_eq_some_iff.mp e
    obtain ⟨l, e4, e5⟩ := Option.map_eq_some_iff.mp e
    subst e5
    refine tE_of R1 e3 fun w H2 S2 g2 r2 R2 => ?_
    have := r2.look
    rw [asB_some e4] at this
    rw [this.bool]
    exact q _ H2 S2 (g1.trans g2) (.bl l)
theorem se_one {op : BoolOp} (ha : PE X a (tE X.K Φ ca)) : PE X (.BoolOp op [a] pos) (tE X.K Φ ca) := pe_one ha
theorem sw_and1 (ha : PT X a (tT X.K Φ ca)) : PW X (.BoolOp .And [a] pos) (tT X.K Φ ca) := pw_and1 ha
theorem sw_or1 (ha : PT X a (tT X.K Φ ca)) : PW X (.BoolOp .Or [a] pos) (tT X.K Φ ca) := pw_or1 ha
theorem sw_and {rest : List Expr} (ha : PT X a (tT X.K Φ ca)) (hb : PW X (.BoolOp .And (b :: rest) pos) (tT X.K Φ cb)) : PW X (.BoolOp .And (a :: b :: rest) pos) (tT X.K Φ (.and ca cb)) := pw_w (pw_and ha hb) fun σ H Q ⟨S, ρ, r, k0, R, e, eb, q⟩ => by
  simp only [ev] at e
  obtain ⟨x, e1, e⟩ := Option.bind_eq_some_iff.mp e
  obtain ⟨k, e2, e⟩ := Option.bind_eq_some_iff.mp e
  refine tT_of R e1 e2 fun H1 S1 g1 R1 => ?_
  cases k with
  | false =>
    simp only [Bool.false_eq_true, if_false] at e ⊢
    cases e
    cases eb
    exact q H1 S1 g1
  | true =>
    simp only [if_true] at e ⊢
    obtain ⟨y, e3, e⟩ := Option.bind_eq_some_iff.mp e
    obtain ⟨l, e4, e5⟩ := Option.map_eq_some_iff.mp e
    subst e5
    cases eb
    exact tT_of R1 e3 e4 fun H2 S2 g2 R2 => q H2 S2 (g1.trans g2)
theorem sw_or {rest : List Expr} (ha : PT X a (tT X.K Φ ca)) (hb : PW X (.BoolOp .Or (b :: rest) pos) (tT X.K Φ cb)) : PW X (.BoolOp .Or (a :: b :: rest) pos) (tT X.K Φ (.or ca cb)) := pw_w (pw_or ha hb) fun σ H Q ⟨S, ρ, r, k0, R, e, eb, q⟩ => by
  simp only [ev] at e
  obtain ⟨x, e1, e⟩ := Option.bind_eq_some_iff.mp e
  obtain ⟨k, e2, e⟩ := Option.bind_eq_some_iff.mp e
  refine tT_of R e1 e2 fun H1 S1 g1 R1 => ?_
  cases k with
  | true =>
    simp only [if_true] at e ⊢
    cases e
    cases eb
    exact q H1 S1 g1
  | false =>
    simp only [Bool.false_eq_true, if_false] at e ⊢
    obtain ⟨y, e3, e⟩ := Option.bind_eq_some_iff.mp e
    obtain ⟨l, e4, e5⟩ := Option.map_eq_some_iff.mp e
    subst e5
    cases eb
    exact tT_of R1 e3 e4 fun H2 S2 g2 R2 => q H2 S2 (g1.trans g2)
theorem st_not (ha : PT X a (tT X.K Φ ca)) : PT X (.UnaryOp .Not a pos) (tT X.K Φ (.not ca)) := pt_w (pt_not ha) fun σ H Q ⟨S, ρ, r, k0, R, e, eb, q⟩ => by
  simp only [ev] at e
  obtain ⟨x, e1, e⟩ := Option.bind_eq_some_iff.mp e
  obtain ⟨i, e2, e3⟩ := Option.map_eq_some_iff.mp e
  subst e3
  cases eb
  exact tT_of R e1 e2 fun H1 S1 g1 R1 => q H1 S1 g1
theorem se_ite (hc : PT X c (tT X.K Φ cc)) (ha : PE X a (tE X.K Φ ca)) (hb : PE X b (tE X.K Φ cb)) : PE X (.IfExp c a b pos) (tE X.K Φ (.ite cc ca cb)) := pe_w (pe_ifExp hc ha hb) fun σ H Q ⟨S, ρ, r, R, e, q⟩ => by
  simp only [ev] at e
  obtain ⟨x, e1, e⟩ := Option.bind_eq_some_iff.mp e
  obtain ⟨k, e2, e⟩ := Option.bind_eq_some_iff.mp e
  refine tT_of R e1 e2 fun H1 S1 g1 R1 => ?_
  cases k with
  | true =>
    simp only [if_true] at e ⊢
    exact tE_of R1 e fun v H2 S2 g2 r2 R2 => q v H2 S2 (g1.trans g2) (r2.back g1)
  | false =>
    simp only [Bool.false_eq_true, if_false] at e ⊢
    exact tE_of R1 e fun v H2 S2 g2 r2 R2 => q v H2 S2 (g1.trans g2) (r2.back g1)
/-! ### subscripts, slices -/
theorem se_idx (hu : X.A.units + 1 < cLine) (ha : PE X a (tE X.K Φ ca)) (hb : PE X b (tE X.K Φ cb)) (hs : PlainIx b) : PE X (.Subscript a b pos) (tE X.K Φ (.idx ca cb)) := pe_w (pe_ix (idx_ok hu) ha hb hs) fun σ H Q ⟨S, ρ, r, R, e, q⟩ => by
  simp only [ev] at e
  obtain ⟨x, e1, e⟩ := Option.bind_eq_some_iff.mp e
  obtain ⟨y, e2, e⟩ := Option.bind_eq_some_iff.mp e
  obtain ⟨d, e3, e4⟩ := Option.map_eq_some_iff.mp e
  subst e4
  exact tE_of R e1 fun v H1 S1 g1 r1 R1 => tE_of R1 e2 fun w H2 S2 g2 r2 R2 => ⟨S2, x.1, y.1, d, g2.live, (r1.grow g2).look, r2.look, e3, Fin.of (g1.trans g2) q⟩
theorem so_none : PO X none (tO X.K Φ .nil) := po_w po_none fun σ H Q ⟨S, ρ, o, R, e, q⟩ => by
  cases e
  exact q H S (Gr.refl R.live)
theorem so_some (ha : PE X a (tE X.K Φ ca)) : PO X (some a) (tO X.K Φ (.cons ca .nil)) := po_w (po_some ha) fun σ H Q ⟨S, ρ, o, R, e, q⟩ => by
  simp only [evo] at e
  obtain ⟨x, e1, e⟩ := Option.bind_eq_some_iff.mp e
  obtain ⟨i, e2, e3⟩ := Option.map_eq_some_iff.mp e
  subst e3
  refine tE_of R e1 fun v H1 S1 g1 r1 R1 => ?_
  have := r1.look
  rw [asI_some e2] at this
  exact ⟨i, this.int, q H1 S1 g1⟩
theorem se_sl {lo hi : Option Expr} {p2 : Pos} (ha : PE X a (tE X.K Φ ca)) (hl : PO X lo (tO X.K Φ cb)) (hh : PO X hi (tO X.K Φ cc)) : PE X (.Subscript a (.Slice lo hi none p2) pos) (tE X.K Φ (.sl ca cb cc)) := pe_w (pe_slice sli_ok ha hl hh) fun σ H Q ⟨S, ρ, r, R, e, q⟩ => by
  simp only [ev] at e
  obtain ⟨x, e1, e⟩ := Option.bind_eq_some_iff.mp e
  obtain ⟨y, e2, e⟩ := Option.bind_eq_some_iff.mp e
  obtain ⟨z, e3, e⟩ := Option.bind_eq_some_iff.mp e
  exact tE_of R e1 fun v H1 S1 g1 r1 R1 => ⟨S1, ρ, y, R1, e2, fun H2 S2 g2 => ⟨S2, ρ, z, R1.grow g2, e3, fun H3 S3 g3 => ⟨S3, x.1, r, g3.live, ((r1.grow g2).grow g3).look, e, Fin.of ((g1.trans g2).trans g3) q⟩⟩⟩
/-! ### arguments, displays -/
theorem sa_nil : PA X [] (tAs X.K Φ .nil) := pa_w pa_nil fun σ H Q ⟨S, ρ, ds, R, e, q⟩ => by
  cases e
  exact q [] H S (Gr.refl R.live) .nil
theorem sa_cons {es : List Expr} (ha : PE X a (tE X.K Φ ca)) (hb : PA X es (tAs X.K Φ cb)) (hs : starEach (a :: es) X.env = (false, eval a X.env) :: starEach es X.env) : PA X (a :: es) (tAs X.K Φ (.cons ca cb)) := pa_w (pa_cons ha hb hs) fun σ H Q ⟨S, ρ, ds, R, e, q⟩ => by
  simp only [evs] at e
  obtain ⟨d, e1, e⟩ := Option.bind_eq_some_iff.mp e
  obtain ⟨x, e1, e2⟩ := Option.bind_eq_some_iff.mp e1
  obtain ⟨rs, e3, e4⟩ := Option.map_eq_some_iff.mp e
  subst e4
  refine tE_of R e1 fun v H1 S1 g1 r1 _ => ?_
  obtain ⟨S2, g2, s2, r2⟩ := r1.take g1 e2
  exact ⟨S2, ρ, rs, R.grow g2, e3, fun vs H3 S3 g3 r3 => q _ H3 S3 (g2.trans g3) (.cons (r2.keep g3.kp _ _) r3)⟩
theorem sb_nil : PA X [] (tAb X.K Φ .nil) := pa_w pa_nil fun σ H Q ⟨S, ρ, ds, R, e, q⟩ => by
  cases e
  exact q [] H S (Gr.refl R.live) .nil
theorem sb_cons {es : List Expr} (ha : PE X a (tE X.K Φ ca)) (hb : PA X es (tAb X.K Φ cb)) (hs : starEach (a :: es) X.env = (false, eval a X.env) :: starEach es X.env) : PA X (a :: es) (tAb X.K Φ (.cons ca cb)) := pa_w (pa_cons ha hb hs) fun σ H Q ⟨S, ρ, ds, R, e, q⟩ => by
  simp only [evb] at e
  obtain ⟨x, e1, e⟩ := Option.bind_eq_some_iff.mp e
  obtain ⟨rs, e3, e4⟩ := Option.map_eq_some_iff.mp e
  subst e4
  exact tE_of R e1 fun v H1 S1 g1 r1 R1 => ⟨S1, ρ, rs, R1, e3, fun vs H3 S3 g3 r3 => q _ H3 S3 (g1.trans g3) (.cons (r1.look.grow g3) r3)⟩
/-- lists of a written length -/
def argsLen : C → Nat
  | .cons _ b => argsLen b + 1
  | _ => 0
theorem evs_len : ∀ {c : C} {ρ : Rho} {ds : List D}, evs Φ c ρ = some ds → ds.length = argsLen c
  | .nil, _, _, h => by cases h; rfl
  | .cons a b, ρ, ds, h => by
    simp only [evs] at h
    obtain ⟨d, _, h⟩ := Option.bind_eq_some_iff.mp h
    obtain ⟨rs, e3, e4⟩ := Option.map_eq_some_iff.mp h
    subst e4
    simp [argsLen, evs_len e3]
theorem se_tup {es : List Expr} {k : Nat} (hn : argsLen ca ≤ 1000) (ha : PA X es (tAs X.K Φ ca)) : PE X (.Tuple es k pos) (tE X.K Φ (.tup ca)) := pe_w (pe_tup ha) fun σ H Q ⟨S, ρ, r, R, e, q⟩ => by
  simp only [ev] at e
  obtain ⟨ds, e1, e2⟩ := Option.map_eq_some_iff.mp e
  subst e2
  refine ⟨S, ρ, ds, R, e1, fun vs H1 S1 g1 r1 => ⟨?_, fun p hp => ?_⟩⟩
  · rw [r1.length, evs_len e1, sizeLine_eq]; omega
  · have g2 : Gr H1 S1 (upd H1 p (.tup vs)) S1 := Gr.new1 g1.live hp
    exact q _ _ S1 (g1.trans g2) (.tup upd_same (r1.keep g2.kp _ _))
theorem se_lst {es : List Expr} (hn : argsLen ca ≤ 1000) (ha : PA X es (tAs X.K Φ ca)) : PE X (.List es pos) (tE X.K Φ (.lst ca)) := pe_w (pe_lst ha) fun σ H Q ⟨S, ρ, r, R, e, q⟩ => by
  simp only [ev] at e
  obtain ⟨ds, e1, e2⟩ := Option.map_eq_some_iff.mp e
  subst e2
  refine ⟨S, ρ, ds, R, e1, fun vs H1 S1 g1 r1 => ⟨?_, fun p hp => ?_⟩⟩
  · rw [r1.length, evs_len e1, sizeLine_eq]; omega
  · have g2 : Gr H1 S1 (upd H1 p (.lst vs)) S1 := Gr.new1 g1.live hp
    exact q _ _ S1 (g1.trans g2) ⟨p, rfl, g1.fresh hp, fun s => g1.live p s hp, .lst upd_same (r1.keep g2.kp _ _)⟩
theorem se_dnew : PE X (.Dict [] [] pos) (tE X.K Φ .dnew) := pe_w pe_dnewT fun σ H Q ⟨S, ρ, r, R, e, q⟩ => by
  cases (show some (PyData.dict [], Os.f) = some r from e)
  intro p hp
  have g2 : Gr H S (upd H p (.dT [])) S := Gr.new1 R.live hp
  exact q _ _ S g2 ⟨p, rfl, hp, fun s => R.live p s hp, .dct upd_same .nil⟩
/-! ### built-ins -/
theorem se_dnewI : PE X (.Dict [] [] pos) (tE X.K Φ .dnewI) := pe_w pe_dnewK fun σ H Q ⟨S, ρ, r, R, e, q⟩ => by
  cases (show some (PyData.dict [markI], Os.f) = some r from e)
  intro p hp
  have g2 : Gr H S (upd H p (.dK [])) S := Gr.new1 R.live hp
  exact q _ _ S g2 ⟨p, rfl, hp, fun s => R.live p s hp, .dci upd_same .nil⟩
/-! ### built-ins -/
theorem tBi_of {f : Bi} {K : PySem.W.Frag} {σ : L2.St} {H : Hp} {Q : VK} (h : tE K Φ (.bi f ca) σ H Q) : tCB (rBi K f) (tAb K Φ ca) σ H Q := by
  obtain ⟨S, ρ, r, R, e, q⟩ := h
  simp only [ev] at e
  obtain ⟨ds, e1, e2⟩ := Option.bind_eq_some_iff.mp e
  exact ⟨S, ρ, ds, R, e1, fun vs H1 S1 g1 r1 => ⟨S1, ds, r, g1.live, r1, e2, Fin.of g1 q⟩⟩
theorem se_bi {f : Bi} {e0 : Expr} {es : List Expr} {x : Str} {p : Pos} {id : String} (hf : CallR X (.builtin id) (rBi X.K f)) (hg : Gl X x) (hm : X.mg x = none) (hv : bootBuiltins x = some (.builtin id)) (ha : PA X (e0 :: es) (tAb X.K Φ ca))
    (hn : x ≠ "__name__") (hdb : (x == ("__debug__" : Str)) = false) (he : starEach (e0 :: es) X.env = (false, eval e0 X.env) :: starEach es X.env) (hpl : (backTo pos (starEach es X.env)).any (·.1) = false) :
    PE X (.Call (.Name x p) (e0 :: es) [] pos) (tE X.K Φ (.bi f ca)) := pe_w (pe_callB hf hg hm hv ha hn hdb he hpl) fun σ H Q h => tBi_of h
theorem se_biT {f : Bi} {e0 : Expr} {es : List Expr} {x : Str} {p : Pos} {id : String} (hf : CallR X (.type id) (rBi X.K f)) (hg : Gl X x) (hm : X.mg x = none) (hv : bootBuiltins x = some (.type id)) (ha : PA X (e0 :: es) (tAb X.K Φ ca))
    (hn : x ≠ "__name__") (hdb : (x == ("__debug__" : Str)) = false) (he : starEach (e0 :: es) X.env = (false, eval e0 X.env) :: starEach es X.env) (hpl : (backTo pos (starEach es X.env)).any (·.1) = false) :
    PE X (.Call (.Name x p) (e0 :: es) [] pos) (tE X.K Φ (.bi f ca)) := pe_w (pe_callTy hf hg hm hv ha hn hdb he hpl) fun σ H Q h => tBi_of h
/-- sorted(set(x)), len(set(x)) -/
theorem tSet_of {f : Bi} {K : PySem.W.Frag} {P : Program} {w : World} {σ : L2.St} {H : Hp} {Q : VK} {r : List V → Hp → VK → Prop}
    (hf : ∀ (d : D) (p : D × Os), bi1 f d = some p → ∃ ds ks, d = .list ds ∧ tupsO ds = some ks ∧ setOk ks = true ∧
      ∀ (H1 : Hp) (S1 : Ad) (x : V) (H2 : Hp) (Q : VK), (∀ a, S1 a → H1 a ≠ none) → rSet K P w ks x H1 H2 → Fin K H2 S1 p Q → r [x] H2 Q)
    (h2 : ∀ i j, bi2 f i j = none) (h : tE K Φ (.bi f ca) σ H Q) : tCB r (tCons (tCB (rMkSet K P w) (tAb K Φ ca)) tNil) σ H Q := by
  obtain ⟨S, ρ, p, R, e, q⟩ := h
  simp only [ev] at e
  obtain ⟨ds, e1, e2⟩ := Option.bind_eq_some_iff.mp e
  refine ⟨S, ρ, ds, R, e1, fun vs H1 S1 g1 r1 => ?_⟩
  cases r1 with
  | nil => cases e2
  | cons rb t => cases t with
    | nil =>
      obtain ⟨es, ks, rfl, e3, e4, k⟩ := hf _ _ e2
      refine ⟨S1, _, es, ks, rfl, rb, e3, e4, fun x H2 rs => ?_⟩
      obtain ⟨a, L, ex, hn, eh, _⟩ := id rs
      have g2 : Gr H1 S1 H2 S1 := by rw [eh]; exact Gr.new1 g1.live hn
      exact k H1 S1 x H2 Q g1.live rs (Fin.of (g1.trans g2) q)
    | cons rb2 t2 => cases t2 with
      | nil =>
        obtain ⟨i, _, e2⟩ := Option.bind_eq_some_iff.mp e2
        obtain ⟨j, _, e2⟩ := Option.bind_eq_some_iff.mp e2
        rw [h2] at e2; cases e2
      | cons => cases e2
theorem sortedSet_ok {K : PySem.W.Frag} {P : Program} {w : World} (d : D) (p : D × Os) (h : bi1 .sortedSet d = some p) : ∃ ds ks, d = .list ds ∧ tupsO ds = some ks ∧ setOk ks = true ∧
      ∀ (H1 : Hp) (S1 : Ad) (x : V) (H2 : Hp) (Q : VK), (∀ a, S1 a → H1 a ≠ none) → rSet K P w ks x H1 H2 → Fin K H2 S1 p Q → rSorS K P w [x] H2 Q := by
  obtain ⟨ds, e1, e2⟩ := Option.bind_eq_some_iff.mp (show (asL d).bind _ = some p from h)
  obtain ⟨ks, e3, e4⟩ := Option.bind_eq_some_iff.mp e2
  have e4 : (if setOk ks then some (PyData.list ((sortTup ks).map tupI), Os.f) else none) = some p := e4
  split at e4
  · rename_i hk
    cases e4
    refine ⟨ds, ks, asL_some e1, e3, hk, fun H1 S1 x H2 Q l ⟨a, L, ex, hn, eh, h1, h2, h3⟩ f => ⟨S1, a, L, ks, by rw [ex], ?_, ⟨by rw [eh]; exact upd_same, h1, h2, h3⟩, hk, f⟩⟩
    rw [eh]
    exact (Gr.new1 l hn).live
  · cases e4
theorem lenSet_ok {K : PySem.W.Frag} {P : Program} {w : World} (d : D) (p : D × Os) (h : bi1 .lenSet d = some p) : ∃ ds ks, d = .list ds ∧ tupsO ds = some ks ∧ setOk ks = true ∧
      ∀ (H1 : Hp) (S1 : Ad) (x : V) (H2 : Hp) (Q : VK), (∀ a, S1 a → H1 a ≠ none) → rSet K P w ks x H1 H2 → Fin K H2 S1 p Q → rLenS K P w [x] H2 Q := by
  obtain ⟨ds, e1, e2⟩ := Option.bind_eq_some_iff.mp (show (asL d).bind _ = some p from h)
  obtain ⟨ks, e3, e4⟩ := Option.bind_eq_some_iff.mp e2
  have e4 : (if setOk ks then some (PyData.int (ks.eraseDups.length : Nat), Os.z) else none) = some p := e4
  split at e4
  · rename_i hk
    cases e4
    refine ⟨ds, ks, asL_some e1, e3, hk, fun H1 S1 x H2 Q l ⟨a, L, ex, hn, eh, h1, h2, h3⟩ f => ⟨a, L, ks, by rw [ex], ⟨by rw [eh]; exact upd_same, h1, h2, h3⟩, f.val ?_ (.int _)⟩⟩
    rw [eh]
    exact (Gr.new1 l hn).live
  · cases e4
theorem se_set {f : Bi} {e0 : Expr} {x : Str} {p p2 pos2 : Pos} {id : String} {r : List V → Hp → VK → Prop} (hc : X.calm = true) (hu : X.A.units + 200 < cLine) (hr : CallR X (.builtin id) r)
    (hf : ∀ (d : D) (p : D × Os), bi1 f d = some p → ∃ ds ks, d = .list ds ∧ tupsO ds = some ks ∧ setOk ks = true ∧
      ∀ (H1 : Hp) (S1 : Ad) (x : V) (H2 : Hp) (Q : VK), (∀ a, S1 a → H1 a ≠ none) → rSet X.K X.prog X.w ks x H1 H2 → Fin X.K H2 S1 p Q → r [x] H2 Q)
    (h2 : ∀ i j, bi2 f i j = none) (hg : Gl X x) (hm : X.mg x = none) (hv : bootBuiltins x = some (.builtin id)) (hgs : Gl X "set") (hms : X.mg "set" = none) (ha : PA X [e0] (tAb X.K Φ ca))
    (hn : x ≠ "__name__") (hdb : (x == ("__debug__" : Str)) = false) (he : starEach [e0] X.env = (false, eval e0 X.env) :: starEach [] X.env) :
    PE X (.Call (.Name x p) [.Call (.Name "set" p2) [e0] [] pos2] [] pos) (tE X.K Φ (.bi f ca)) :=
  pe_w (pe_callB hr hg hm hv (pa_cons (pe_callTy (bi_mkSet hc hu) hgs hms PyProof.Rows.boot_set ha (by decide) (by decide) he rfl) pa_nil rfl) hn hdb rfl rfl) fun σ H Q h => tSet_of hf h2 h
/-! ### isinstance -/
def tyN : Ty → String
  | .int => "int" | .bool => "bool" | .list => "list" | .tuple => "tuple" | .str => "str"
theorem kit_all (K : PySem.W.Frag) (t : Ty) (d : D) (n : String) (b : Bool) (e : isTy t d = some b) (h : (match d with
    | .none => n = "NoneType" | .bool _ => n = "bool" | .int _ => n = "int" | .str _ => n = "str" | .list _ => n = "list" | .tuple _ => n = "tuple" | .dict _ => False)) : PySem.W.kitOne K (.type n) (.type (tyN t)) = some b := by
  cases d <;> simp only at h <;> first
    | (subst h; cases t <;> cases e <;> exact kit_ty (by decide +kernel))
    | exact h.elim
theorem Rb.tyx {K : PySem.W.Frag} {H : Hp} {S : Ad} {v : V} {d : D} {t : Ty} {b : Bool} (h : Rb K H S v d) (e : isTy t d = some b) : ∃ n, TyX K H v (.type n) ∧ PySem.W.kitOne K (.type n) (.type (tyN t)) = some b := by
  cases d with
  | none => rw [h.none]; exact ⟨_, .base .non, kit_all K t _ _ _ e rfl⟩
  | bool k => rw [h.bool]; exact ⟨_, .base (.bl k), kit_all K t _ _ _ e rfl⟩
  | int k => rw [h.int]; exact ⟨_, .base (.int k), kit_all K t _ _ _ e rfl⟩
  | str k => rw [h.str]; exact ⟨_, .base (.str k), kit_all K t _ _ _ e rfl⟩
  | list ds =>
    obtain ⟨a, xs, rfl, ha, _⟩ := h.list
    exact ⟨_, .base (.lst ha), kit_all K t _ _ _ e rfl⟩
  | tuple ds =>
    obtain ⟨a, xs, rfl, ha, _⟩ := h.tuple
    refine ⟨"tuple", ?_, kit_all K t _ _ _ e rfl⟩
    rcases ha with (ha | ⟨o, ha⟩) | ⟨o, its, n, hk, hc, _⟩
    · exact .base (.tup ha)
    · exact .fTuple ha
    · exact .kTuple hk hc
  | dict _ => cases e
theorem se_isi {e0 ty : Expr} {t : Ty} {p : Pos} (he : PE X e0 (tE X.K Φ ca)) (ht : PE X ty (tC (.ty (tyN t)))) (hg : Gl X "isinstance") (hm : X.mg "isinstance" = none)
    (hs : starEach [e0, ty] X.env = (false, eval e0 X.env) :: starEach [ty] X.env) (hs2 : starEach [ty] X.env = (false, eval ty X.env) :: starEach [] X.env) (hpl : (backTo pos (starEach [ty] X.env)).any (·.1) = false) :
    PE X (.Call (.Name "isinstance" p) [e0, ty] [] pos) (tE X.K Φ (.isi t ca)) :=
  pe_w (pe_callB call_isi hg hm boot_isinstance (pa_cons he (pa_cons ht pa_nil hs2) hs) (by decide) (by decide) hs hpl) fun σ H Q ⟨S, ρ, r, R, e, q⟩ => by
    simp only [ev] at e
    obtain ⟨x, e1, e⟩ := Option.bind_eq_some_iff.mp e
    obtain ⟨k, e2, e3⟩ := Option.map_eq_some_iff.mp e
    subst e3
    refine tE_of R e1 fun v H1 S1 g1 r1 R1 => ?_
    obtain ⟨n, h1, h2⟩ := r1.look.tyx e2
    exact ⟨v, _, _, _, k, rfl, .ty _, h1, h2, q _ H1 S1 g1 (.bl k)⟩
/-! ### calls of defs -/
/-- a def does what Φ says -/
def spF (K : PySem.W.Frag) (Φ : Ph) (f : Str) (n : Nat) : Sp := fun vs H Q _ => ∃ S ds r, (∀ a, S a → H a ≠ none) ∧ ds.length = n ∧ RpAll K H S vs ds ∧ Φ f ds = some r ∧ Fin K H S (r.1, if r.2 then .f else .z) Q
theorem se_call {f : Str} {n k : Nat} {fa : Addr} {fd : FuncData} {ps : List Str} {e0 : Expr} {es : List Expr} {p : Pos} (hn : argsLen ca = n) (F : FnOk X.prog X.w X.K X.mg X.base CX0 k fa fd ps (spF X.K Φ f n)) (hr : Room k X.A) (hg : Gl X f) (hm : X.mg f = some (.ref fa))
    (hk : PySem.W.keepIn X.K (.ref fa) = true) (hb : Binds X.K fd ps []) (ha : PA X (e0 :: es) (tAs X.K Φ ca)) (hdb : (f == ("__debug__" : Str)) = false)
    (he : starEach (e0 :: es) X.env = (false, eval e0 X.env) :: starEach es X.env) (hpl : (backTo pos (starEach es X.env)).any (·.1) = false) :
    PE X (.Call (.Name f p) (e0 :: es) [] pos) (tE X.K Φ (.call f ca)) :=
  pe_w (pe_call F hr hg hm hk hb .nil pass0 ha hdb he hpl) fun σ H Q ⟨S, ρ, r, R, e, q⟩ => by
    simp only [ev] at e
    obtain ⟨ds, e1, e⟩ := Option.bind_eq_some_iff.mp e
    obtain ⟨r', e2, e3⟩ := Option.map_eq_some_iff.mp e
    subst e3
    refine ⟨S, ρ, ds, R, e1, fun vs H1 S1 g1 r1 => ?_⟩
    show spF X.K Φ f n (vs ++ []) H1 Q E0
    rw [List.append_nil]
    exact ⟨S1, ds, r', g1.live, by rw [evs_len e1, hn], r1, e2, Fin.of g1 q⟩
end Pv

set_option Elab.async false
set_option linter.all false
set_option maxRecDepth 100000
/-! Pv4: what is walked; targets; comprehensions. -/
namespace Pv
open PySem L2 PyProof.Rows
variable {X : Cx} {Φ : Ph}
/-! ### slots -/
section
variable {K : PySem.W.Frag} {σ : L2.St} {H : Hp} {S : Ad} {ρ : Rho}
theorem Rep.set {v : V} {d : D} (R : Rep K σ H S ρ) (i : Nat) (r : Rp K H S v d) : Rep K (σ.set i (some v)) H S (ρ.set i (some (d, false))) := by
  have hl := R.len
  refine ⟨by simp [hl], fun j d' o e => ?_, fun j k d' d'' a hjk e1 e2 e3 e4 => ?_, R.live⟩
  · by_cases hj : i = j
    · subst hj
      have hi : i < ρ.length := by
        rcases Nat.lt_or_ge i ρ.length with h | h
        · exact h
        · rw [List.getElem?_eq_none (by simpa using h)] at e; cases e
      rw [List.getElem?_set_self hi] at e
      cases e
      exact ⟨v, List.getElem?_set_self (by omega), by simpa using r⟩
    · rw [List.getElem?_set_ne hj] at e
      rw [List.getElem?_set_ne hj]
      exact R.val j d' o e
  · have nf : ∀ {m : Nat} {e : D}, (ρ.set i (some (d, false)))[m]? = some (some (e, true)) → m ≠ i ∧ ρ[m]? = some (some (e, true)) := fun {m e} h => by
      by_cases hm : i = m
      · subst hm
        have hi : i < ρ.length := by
          rcases Nat.lt_or_ge i ρ.length with h' | h'
          · exact h'
          · rw [List.getElem?_eq_none (by simpa using h')] at h; cases h
        rw [List.getElem?_set_self hi] at h
        cases h
      · rw [List.getElem?_set_ne hm] at h
        exact ⟨Ne.symm hm, h⟩
    obtain ⟨n1, f1⟩ := nf e1
    obtain ⟨n2, f2⟩ := nf e2
    rw [List.getElem?_set_ne (Ne.symm n1)] at e3
    rw [List.getElem?_set_ne (Ne.symm n2)] at e4
    exact R.ap j k d' d'' a hjk f1 f2 e3 e4
/-- a slot takes over an object that no other slot owns -/
theorem Rep.setOwn {a : Addr} {d : D} (R : Rep K σ H S ρ) (i : Nat) (r : Own K H S (.ref a) d) (hf : ∀ j d', j ≠ i → ρ[j]? = some (some (d', true)) → σ[j]? ≠ some (some (.ref a))) : Rep K (σ.set i (some (.ref a))) H S (ρ.set i (some (d, true))) := by
  have hl := R.len
  have look : ∀ {m : Nat} {e : D} {o : Bool}, (ρ.set i (some (d, true)))[m]? = some (some (e, o)) → (m = i ∧ e = d ∧ o = true ∧ (σ.set i (some (V.ref a)))[m]? = some (some (.ref a))) ∨ (m ≠ i ∧ ρ[m]? = some (some (e, o)) ∧ (σ.set i (some (V.ref a)))[m]? = σ[m]?) := fun {m e o} h => by
    by_cases hm : i = m
    · subst hm
      have hi : i < ρ.length := by
        rcases Nat.lt_or_ge i ρ.length with h' | h'
        · exact h'
        · rw [List.getElem?_eq_none (by simpa using h')] at h; cases h
      rw [List.getElem?_set_self hi] at h
      cases h
      exact .inl ⟨rfl, rfl, rfl, List.getElem?_set_self (by omega)⟩
    · rw [List.getElem?_set_ne hm] at h
      exact .inr ⟨Ne.symm hm, h, List.getElem?_set_ne hm⟩
  refine ⟨by simp [hl], fun j d' o e => ?_, fun j k d' d'' b hjk e1 e2 e3 e4 => ?_, R.live⟩
  · rcases look e with ⟨rfl, rfl, rfl, h⟩ | ⟨_, h, h2⟩
    · exact ⟨_, h, by simpa using r⟩
    · rw [h2]; exact R.val j d' o h
  · rcases look e1 with ⟨rfl, rfl, _, h⟩ | ⟨n1, h, h2⟩ <;> rcases look e2 with ⟨rfl, rfl, _, h'⟩ | ⟨n2, h', h2'⟩
    · exact hjk rfl
    · rw [h] at e3; cases e3
      rw [h2'] at e4
      exact hf k _ n2 h' e4
    · rw [h'] at e4; cases e4
      rw [h2] at e3
      exact hf j _ n1 h e3
    · rw [h2] at e3
      rw [h2'] at e4
      exact R.ap j k d' d'' b hjk h h' e3 e4
def setSt : List Nat → List V → L2.St → L2.St
  | i :: is, v :: vs, σ => setSt is vs (σ.set i (some v))
  | _, _, σ => σ
theorem Rep.setMany : ∀ (is : List Nat) {ds : List D} {vs : List V} {σ : L2.St} {ρ ρ' : Rho}, Rep K σ H S ρ → RpAll K H S vs ds → Pv.setMany is ds ρ = some ρ' → Rep K (setSt is vs σ) H S ρ'
  | [], [], _, _, _, _, R, r, e => by cases e; cases r; exact R
  | i :: is, d :: ds, _, _, _, _, R, r, e => by
    cases r with
    | cons r1 t =>
      have R1 := R.set i r1
      exact Rep.setMany is R1 t (by simpa [Pv.setMany] using e)
  | [], _ :: _, _, _, _, _, _, _, e => by simp [Pv.setMany] at e
  | _ :: _, [], _, _, _, _, _, _, e => by simp [Pv.setMany] at e
theorem setMany_len : ∀ {is : List Nat} {ds : List D} {ρ ρ' : Rho}, Pv.setMany is ds ρ = some ρ' → is.length = ds.length
  | [], [], _, _, _ => rfl
  | i :: is, d :: ds, _, _, e => by simp [setMany_len (is := is) (ds := ds) (by simpa [Pv.setMany] using e)]
  | [], _ :: _, _, _, e => by simp [Pv.setMany] at e
  | _ :: _, [], _, _, e => by simp [Pv.setMany] at e
/-! ### the block's own slots -/
theorem wipe_set {i : Nat} {x : Option V} : ∀ {vs : List Nat} {σ : L2.St}, i ∈ vs → wipe (σ.set i x) vs = wipe σ vs
  | [], _, h => by cases h
  | j :: vs, σ, h => by
    show (wipe (σ.set i x) vs).set j none = (wipe σ vs).set j none
    by_cases hm : i ∈ vs
    · rw [wipe_set hm]
    · have hj : i = j := by
        rcases List.mem_cons.mp h with e | e
        · exact e
        · exact absurd e hm
      subst hj
      have key : ∀ {vs : List Nat} {σ : L2.St}, i ∉ vs → wipe (σ.set i x) vs = (wipe σ vs).set i x := by
        intro vs
        induction vs with
        | nil => intro σ _; rfl
        | cons k vs ih =>
          intro σ hn
          rw [List.mem_cons, not_or] at hn
          show (wipe (σ.set i x) vs).set k none = ((wipe σ vs).set k none).set i x
          rw [ih hn.2, List.set_comm _ _ hn.1]
      rw [key hm, List.set_set]
theorem wipe_setSt : ∀ {is js : List Nat} {vs : List V} {σ : L2.St}, (∀ i ∈ is, i ∈ js) → wipe (setSt is vs σ) js = wipe σ js
  | [], _, _, _, _ => rfl
  | _ :: _, _, [], _, _ => rfl
  | i :: is, js, v :: vs, σ, h => by
    show wipe (setSt is vs (σ.set i (some v))) js = wipe σ js
    rw [wipe_setSt fun k hk => h k (List.mem_cons_of_mem _ hk), wipe_set (h i List.mem_cons_self)]
theorem set_wipe_out {i : Nat} {x : Option V} : ∀ {vs : List Nat} {σ : L2.St}, i ∉ vs → wipe (σ.set i x) vs = (wipe σ vs).set i x
  | [], _, _ => rfl
  | k :: vs, σ, hn => by
    rw [List.mem_cons, not_or] at hn
    show (wipe (σ.set i x) vs).set k none = ((wipe σ vs).set k none).set i x
    rw [set_wipe_out hn.2, List.set_comm _ _ hn.1]
theorem setSt_wipe : ∀ {is : List Nat} {vs : List V} {σ : L2.St}, is.Nodup → is.length = vs.length → setSt is vs (wipe σ is) = setSt is vs σ
  | [], _, _, _, _ => rfl
  | i :: is, [], _, _, h => by simp at h
  | i :: is, v :: vs, σ, hn, h => by
    obtain ⟨h1, h2⟩ := List.nodup_cons.mp hn
    show setSt is vs (((wipe σ is).set i none).set i (some v)) = setSt is vs (σ.set i (some v))
    rw [List.set_set, ← set_wipe_out h1, setSt_wipe h2 (by simpa using h)]
end
/-! ### targets -/
def tgSlots : Tg → List Nat
  | .nm i => [i]
  | .tu is => is
/-- what a target does with a value -/
def tG (K : PySem.W.Frag) (t : Tg) : TG := fun v σ H Q => match t with
  | .nm i => Q (σ.set i (some v)) H
  | .tu is => ∃ a vs, v = .ref a ∧ (SqT K H a vs ∨ SqL K H a vs) ∧ vs.length = is.length ∧ Q (setSt is vs σ) H
def gMany (is : List Nat) : TGs := fun vs σ H Q => vs.length = is.length ∧ Q (setSt is vs σ) H
theorem sg_nil : PGs X [] (gMany []) := ⟨fun pins s σ H vs us Q I r ⟨hl, q⟩ => pgs_nil.run pins s σ H vs us Q I r ⟨List.length_eq_zero_iff.mp hl, by
  have : vs = [] := List.length_eq_zero_iff.mp hl
  rw [this] at q; exact q⟩⟩
theorem sg_cons {i : Nat} {is : List Nat} {e : Expr} {es : List Expr} (h1 : PG X e (gName i)) (h2 : PGs X es (gMany is)) (hs : (assignEach (e :: es) X.env).map (·.2) = assign e X.env :: (assignEach es X.env).map (·.2)) : PGs X (e :: es) (gMany (i :: is)) :=
  ⟨fun pins s σ H vs us Q I r ⟨hl, q⟩ => (pgs_cons h1 h2 hs).run pins s σ H vs us Q I r (by
    cases vs with
    | nil => simp at hl
    | cons v vs => exact ⟨v, vs, rfl, by simpa using hl, q⟩)⟩
theorem sg_tup {is : List Nat} {es : List Expr} {k : Nat} {pos : Pos} (hc : X.calm = true) (h : PGs X es (gMany is)) (hn : (assignEach es X.env).length = is.length) (hst : (assignEach es X.env).findIdx? (·.1) = none) : PG X (.Tuple es k pos) (tG X.K (.tu is)) :=
  ⟨fun pins s σ H v u Q I r ⟨a, vs, ev, hq, hl, q⟩ => hq.elim (fun hq => (pg_tup hc h hn hst).run pins s σ H v u Q I r ⟨a, vs, ev, hq, hl, hl, q⟩) (fun hq => (pg_lst hc h hn hst).run pins s σ H v u Q I r ⟨a, vs, ev, hq, hl, hl, q⟩)⟩
/-- a target given a known value -/
theorem tG_of {K : PySem.W.Frag} {t : Tg} {σ : L2.St} {H : Hp} {S : Ad} {ρ ρ' : Rho} {v : V} {d : D} {Q : L2.St → Hp → Prop} (R : Rep K σ H S ρ) (r : Rp K H S v d) (e : bindT t d ρ = some ρ') (q : ∀ vs, (tgSlots t).length = vs.length → Rep K (setSt (tgSlots t) vs σ) H S ρ' → Q (setSt (tgSlots t) vs σ) H) : tG K t v σ H Q := by
  cases t with
  | nm i =>
    cases e
    exact q [v] rfl (R.set i r)
  | tu is =>
    obtain ⟨ds, e1, e2⟩ := Option.bind_eq_some_iff.mp (show (asTL d).bind _ = some ρ' from e)
    obtain ⟨a, vs, rfl, hs, r2⟩ := Rb.seqX (.inr r) e1
    have hl := setMany_len e2
    exact ⟨a, vs, rfl, hs, by rw [r2.length, hl], q vs (by rw [r2.length]; exact hl) (Rep.setMany is R r2 e2)⟩
/-! ### what is walked -/
/-- J gives the data xs, one a turn, while what stood frozen stands -/
def WalkD (K : PySem.W.Frag) (J : It) (H0 : Hp) (S0 : Ad) (xs : List D) : Prop :=
  Walk J xs.length (fun H => ∃ S, Kp H0 S0 H S ∧ ∀ a, S a → H a ≠ none) (fun i H x H' => ∀ S, Kp H0 S0 H S → (∀ a, S a → H a ≠ none) → ∃ d, xs[i]? = some d ∧ Gr H S H' S ∧ Rp K H' S x d)
def tI (K : PySem.W.Frag) (Φ : Ph) (k : Ik) (c : C) : TI := fun σ H R => ∃ S ρ ds xs, Rep K σ H S ρ ∧ evs Φ c ρ = some ds ∧ iterO k ds = some xs ∧ ∀ J H' S', Gr H S H' S' → WalkD K J H' S' xs → R J H'
theorem pi_w {tg e : Expr} {t t' : TI} (h : PI X tg e t) (w : ∀ σ H R, t' σ H R → t σ H R) : PI X tg e t' := ⟨fun pins s σ H R I q => h.run pins s σ H R I (w σ H R q)⟩
section
variable {K : PySem.W.Frag} {H : Hp} {S : Ad}
/-- a frozen list stays -/
theorem Rp.listAt {v : V} {ds : List D} (h : Rp K H S v (.list ds)) : ∃ a xs, v = .ref a ∧ S a ∧ H a = some (.lst xs) ∧ RpAll K H S xs ds := by
  cases h with
  | cont s c => cases c with
    | lst e r => exact ⟨_, _, rfl, s, e, r⟩
theorem walkD_list {a : Addr} {xs : List V} {ds : List D} (hk : ∀ H' S', Kp H S H' S' → SqL K H' a xs) (r : RpAll K H S xs ds) : WalkD K (Itl K a) H S ds := by
  unfold WalkD
  rw [← r.length]
  refine walk_list.mono (fun H' ⟨S', k, _⟩ => hk H' S' k) fun i H1 x H2 hi _ ⟨e1, e2⟩ S' k l => ?_
  subst e1
  obtain ⟨d, h1, h2⟩ := r.getV e2
  exact ⟨d, h1, Gr.refl l, h2.keep k _ _⟩
theorem walkD_tup {a : Addr} {xs : List V} {ds : List D} (h : SqT K H a xs) (r : RpAll K H S xs ds) : WalkD K (Itt K a) H S ds := by
  unfold WalkD
  rw [← r.length]
  refine walk_tup.mono (fun H' ⟨S', k, _⟩ => k.sqT h) fun i H1 x H2 hi _ ⟨e1, e2⟩ S' k l => ?_
  subst e1
  obtain ⟨d, h1, h2⟩ := r.getV e2
  exact ⟨d, h1, Gr.refl l, h2.keep k _ _⟩
theorem rangeD_get {i : Int} {n j : Nat} (h : j < n) : (rangeD i n)[j]? = some (.int (i + (j : Nat))) := by
  unfold rangeD
  rw [List.getElem?_map, List.getElem?_range h]; rfl
theorem walkD_range {lo : Int} {n : Nat} : WalkD K (Itr lo n) H S (rangeD lo n) := by
  unfold WalkD
  have hl : (rangeD lo n).length = n := by simp [rangeD]
  rw [hl]
  refine walk_range.mono (fun _ _ => trivial) fun i H1 x H2 hi _ ⟨e1, e2⟩ S' k l => ?_
  subst e1
  exact ⟨_, rangeD_get hi, Gr.refl l, by rw [e2]; exact .int _⟩
theorem walkD_rangeC {lo c : Int} {n : Nat} : WalkD K (Itc lo c n) H S (rangeC lo c n) := by
  unfold WalkD
  have hl : (rangeC lo c n).length = n := by simp [rangeC]
  rw [hl]
  refine walk_rangeC.mono (fun _ _ => trivial) fun i H1 x H2 hi _ ⟨e1, e2⟩ S' k l => ?_
  subst e1
  refine ⟨.int (lo + (i : Nat) * c), ?_, Gr.refl l, by rw [e2]; exact .int _⟩
  unfold rangeC
  rw [List.getElem?_map, List.getElem?_range hi]; rfl
theorem walkD_enum {a : Addr} {xs : List V} {ds : List D} (hk : ∀ H' S', Kp H S H' S' → SqL K H' a xs) (r : RpAll K H S xs ds) : WalkD K (Ite K a) H S (ds.mapIdx fun i x => .tuple [.int (i : Nat), x]) := by
  unfold WalkD
  rw [List.length_mapIdx, ← r.length]
  refine walk_enum.mono (fun H' ⟨S', k, _⟩ => hk H' S' k) fun i H1 x H2 hi _ ⟨T, y, z, h1, h2, h3, h4, h5⟩ S' k l => ?_
  cases h4
  obtain ⟨d, h6, h7⟩ := r.getV h5
  have g : Gr H1 S' H2 S' := by rw [h3]; exact Gr.new1 l h2
  refine ⟨.tuple [.int (i : Nat), d], by rw [List.getElem?_mapIdx, h6]; rfl, g, ?_⟩
  rw [h1]
  exact .tup (by rw [h3]; exact upd_same) (.cons (.int _) (.cons (Rp.keep g.kp _ _ (h7.keep k _ _)) .nil))
theorem walkD_zip {a b : Addr} {xs ys : List V} {ds es : List D} (hk : ∀ H' S', Kp H S H' S' → SqL K H' a xs) (hk2 : ∀ H' S', Kp H S H' S' → SqL K H' b ys) (r : RpAll K H S xs ds) (r2 : RpAll K H S ys es) :
    WalkD K (Itz K a b) H S ((ds.zip es).map fun p => .tuple [p.1, p.2]) := by
  unfold WalkD
  have hl : ((ds.zip es).map fun p => PyData.tuple [p.1, p.2]).length = min xs.length ys.length := by rw [List.length_map, List.length_zip, r.length, r2.length]
  rw [hl]
  refine (walk_zip rfl).mono (fun H' ⟨S', k, _⟩ => ⟨hk H' S' k, hk2 H' S' k⟩) fun i H1 x H2 hi _ ⟨T, y, z, h1, h2, h3, h4, h5⟩ S' k l => ?_
  obtain ⟨d, h6, h7⟩ := r.getV h4
  obtain ⟨e, h8, h9⟩ := r2.getV h5
  have g : Gr H1 S' H2 S' := by rw [h3]; exact Gr.new1 l h2
  refine ⟨.tuple [d, e], ?_, g, ?_⟩
  · rw [List.getElem?_map, (show (ds.zip es)[i]? = some (d, e) from List.getElem?_zip_eq_some.mpr ⟨h6, h8⟩)]; rfl
  · rw [h1]
    exact .tup (by rw [h3]; exact upd_same) (.cons (Rp.keep g.kp _ _ (h7.keep k _ _)) (.cons (Rp.keep g.kp _ _ (h9.keep k _ _)) .nil))
end
theorem rngOk_of {i : Int} (h : rngOk i = true) : -(2 ^ 62) ≤ i ∧ i < 2 ^ 62 := by
  simp only [rngOk, Bool.and_eq_true, decide_eq_true_eq] at h
  exact h
variable {tg a b : Expr} {ca cb : C} {pos : Pos}
theorem evs_one {c : C} {ρ : Rho} {ds : List D} (hn : argsLen c = 1) (e : evs Φ c ρ = some ds) : ∃ d, ds = [d] := by
  have h := evs_len e
  rw [hn] at h
  exact List.length_eq_one_iff.mp h
theorem evs_two {c : C} {ρ : Rho} {ds : List D} (hn : argsLen c = 2) (e : evs Φ c ρ = some ds) : ∃ d d', ds = [d, d'] := by
  have h := evs_len e
  rw [hn] at h
  match ds, h with
  | [d, d'], _ => exact ⟨d, d', rfl⟩
theorem RpAll.one {K : PySem.W.Frag} {H : Hp} {S : Ad} {vs : List V} {d : D} (h : RpAll K H S vs [d]) : ∃ v, vs = [v] ∧ Rp K H S v d := by
  cases h with
  | cons r t => cases t; exact ⟨_, rfl, r⟩
theorem RpAll.two {K : PySem.W.Frag} {H : Hp} {S : Ad} {vs : List V} {d e : D} (h : RpAll K H S vs [d, e]) : ∃ v w, vs = [v, w] ∧ Rp K H S v d ∧ Rp K H S w e := by
  cases h with
  | cons r t => cases t with
    | cons r2 t2 => cases t2; exact ⟨_, _, rfl, r, r2⟩
theorem si_range1 {p : Pos} (hn : argsLen ca = 1) (hg : Gl X "range") (hm : X.mg "range" = none) (ha : PA X [a] (tAs X.K Φ ca)) (hs : starEach [a] X.env = [(false, eval a X.env)]) : PI X tg (.Call (.Name "range" p) [a] [] pos) (tI X.K Φ .range ca) :=
  pi_w (pi_range1 hg hm ha hs) fun σ H R ⟨S, ρ, ds, xs, RR, e1, e2, q⟩ => by
    obtain ⟨d, rfl⟩ := evs_one hn e1
    obtain ⟨i, e3, e4⟩ := Option.bind_eq_some_iff.mp (show (asI d).bind _ = some xs from e2)
    have e4 : (if rngOk i then some (rangeD 0 i.toNat) else none) = some xs := e4
    split at e4
    · rename_i hr
      cases e4
      refine ⟨S, ρ, _, RR, e1, fun vs H1 S1 g1 r1 => ?_⟩
      obtain ⟨v, rfl, r⟩ := r1.one
      rw [asI_some e3] at r
      exact ⟨i, by rw [Rb.int (.inr r)], (rngOk_of hr).1, (rngOk_of hr).2, q _ H1 S1 g1 walkD_range⟩
    · cases e4
theorem si_range2 {p : Pos} (hn : argsLen ca = 2) (hg : Gl X "range") (hm : X.mg "range" = none) (ha : PA X [a, b] (tAs X.K Φ ca)) (hs : starEach [a, b] X.env = [(false, eval a X.env), (false, eval b X.env)]) (hs2 : starEach [b] X.env = [(false, eval b X.env)]) : PI X tg (.Call (.Name "range" p) [a, b] [] pos) (tI X.K Φ .range ca) :=
  pi_w (pi_range2 hg hm ha hs hs2) fun σ H R ⟨S, ρ, ds, xs, RR, e1, e2, q⟩ => by
    obtain ⟨d, d', rfl⟩ := evs_two hn e1
    obtain ⟨i, e3, e4⟩ := Option.bind_eq_some_iff.mp (show (asI d).bind _ = some xs from e2)
    obtain ⟨j, e5, e6⟩ := Option.bind_eq_some_iff.mp e4
    have e6 : (if rngOk i && rngOk j then some (rangeD i (j - i).toNat) else none) = some xs := e6
    split at e6
    · rename_i hr
      cases e6
      rw [Bool.and_eq_true] at hr
      refine ⟨S, ρ, _, RR, e1, fun vs H1 S1 g1 r1 => ?_⟩
      obtain ⟨v, w, rfl, r, r'⟩ := r1.two
      rw [asI_some e3] at r
      rw [asI_some e5] at r'
      exact ⟨i, j, by rw [Rb.int (.inr r), Rb.int (.inr r')], ⟨(rngOk_of hr.1).1, (rngOk_of hr.1).2, (rngOk_of hr.2).1, (rngOk_of hr.2).2⟩, q _ H1 S1 g1 walkD_range⟩
    · cases e6
theorem evs_three {c : C} {ρ : Rho} {ds : List D} (hn : argsLen c = 3) (e : evs Φ c ρ = some ds) : ∃ d d' d'', ds = [d, d', d''] := by
  have h := evs_len e
  rw [hn] at h
  match ds, h with
  | [d, d', d''], _ => exact ⟨d, d', d'', rfl⟩
theorem RpAll.three {K : PySem.W.Frag} {H : Hp} {S : Ad} {vs : List V} {d e f : D} (h : RpAll K H S vs [d, e, f]) : ∃ v w u, vs = [v, w, u] ∧ Rp K H S v d ∧ Rp K H S w e ∧ Rp K H S u f := by
  cases h with
  | cons r t => obtain ⟨w, u, rfl, h1, h2⟩ := t.two; exact ⟨_, w, u, rfl, r, h1, h2⟩
theorem si_range3 {p : Pos} {c : Expr} {cc : C} (hn : argsLen cc = 3) (hg : Gl X "range") (hm : X.mg "range" = none) (ha : PA X [a, b, c] (tAs X.K Φ cc)) (hs : starEach [a, b, c] X.env = (false, eval a X.env) :: starEach [b, c] X.env) (hs2 : ((backTo pos (starEach [b, c] X.env)).any fun x => x.1) = false) : PI X tg (.Call (.Name "range" p) [a, b, c] [] pos) (tI X.K Φ .range cc) :=
  pi_w (pi_range3 hg hm ha hs hs2) fun σ H R ⟨S, ρ, ds, xs, RR, e1, e2, q⟩ => by
    obtain ⟨d, d', d'', rfl⟩ := evs_three hn e1
    obtain ⟨i, e3, e4⟩ := Option.bind_eq_some_iff.mp (show (asI d).bind _ = some xs from e2)
    obtain ⟨j, e5, e6⟩ := Option.bind_eq_some_iff.mp e4
    obtain ⟨k, e7, e8⟩ := Option.bind_eq_some_iff.mp e6
    have e8 : (if rngC i j k then some (rangeC i k (Builtin.Range.rangeSize i j k).toNat) else none) = some xs := e8
    split at e8
    · rename_i hr
      cases e8
      simp only [rngC, Bool.and_eq_true, decide_eq_true_eq] at hr
      refine ⟨S, ρ, _, RR, e1, fun vs H1 S1 g1 r1 => ?_⟩
      obtain ⟨v, w, u, rfl, r, r', r''⟩ := r1.three
      rw [asI_some e3] at r
      rw [asI_some e5] at r'
      rw [asI_some e7] at r''
      exact ⟨i, j, k, _, by rw [Rb.int (.inr r), Rb.int (.inr r'), Rb.int (.inr r'')], ⟨hr.1, hr.2.1, hr.2.2.1, by rw [Int.toNat_of_nonneg hr.2.2.2]⟩, q _ H1 S1 g1 walkD_rangeC⟩
    · cases e8
theorem Kp.listAt {K : PySem.W.Frag} {H : Hp} {S : Ad} {a : Addr} {xs : List V} (s : S a) (e : H a = some (.lst xs)) : ∀ H' S', Kp H S H' S' → SqL K H' a xs := fun H' S' k => SqL.of (k.obj a _ s e)
theorem si_enum {p tpos : Pos} {elts : List Expr} {kk : Nat} (hn : argsLen ca = 1) (hg : Gl X "enumerate") (hm : X.mg "enumerate" = none) (ha : PA X [a] (tAs X.K Φ ca)) (hs : starEach [a] X.env = [(false, eval a X.env)]) : PI X (.Tuple elts kk tpos) (.Call (.Name "enumerate" p) [a] [] pos) (tI X.K Φ .enum ca) :=
  pi_w (pi_enum hg hm ha hs) fun σ H R ⟨S, ρ, ds, xs, RR, e1, e2, q⟩ => by
    obtain ⟨d, rfl⟩ := evs_one hn e1
    obtain ⟨es, e3, e4⟩ := Option.map_eq_some_iff.mp (show (asL d).map _ = some xs from e2)
    subst e4
    refine ⟨S, ρ, _, RR, e1, fun vs H1 S1 g1 r1 => ?_⟩
    obtain ⟨v, rfl, r⟩ := r1.one
    rw [asL_some e3] at r
    obtain ⟨ad, ws, rfl, s, e, r2⟩ := r.listAt
    exact ⟨ad, ws, rfl, SqL.of e, q _ H1 S1 g1 (walkD_enum (Kp.listAt s e) r2)⟩
theorem si_zip {p tpos : Pos} {elts : List Expr} {kk : Nat} (hn : argsLen ca = 2) (hg : Gl X "zip") (hm : X.mg "zip" = none) (ha : PA X [a, b] (tAs X.K Φ ca)) (hs : starEach [a, b] X.env = (false, eval a X.env) :: starEach [b] X.env) (hpl : (backTo pos (starEach [b] X.env)).any (·.1) = false) :
    PI X (.Tuple elts kk tpos) (.Call (.Name "zip" p) [a, b] [] pos) (tI X.K Φ .zip ca) :=
  pi_w (pi_zip hg hm ha hs hpl) fun σ H R ⟨S, ρ, ds, xs, RR, e1, e2, q⟩ => by
    obtain ⟨d, d', rfl⟩ := evs_two hn e1
    obtain ⟨es, e3, e4⟩ := Option.bind_eq_some_iff.mp (show (asL d).bind _ = some xs from e2)
    obtain ⟨es', e5, e6⟩ := Option.map_eq_some_iff.mp e4
    subst e6
    refine ⟨S, ρ, _, RR, e1, fun vs H1 S1 g1 r1 => ?_⟩
    obtain ⟨v, w, rfl, r, r'⟩ := r1.two
    rw [asL_some e3] at r
    rw [asL_some e5] at r'
    obtain ⟨ad, ws, rfl, s, e, r2⟩ := r.listAt
    obtain ⟨ad', ws', rfl, s', e', r2'⟩ := r'.listAt
    exact ⟨ad, ad', ws, ws', rfl, SqL.of e, SqL.of e', q _ H1 S1 g1 (walkD_zip (Kp.listAt s e) (Kp.listAt s' e') r2 r2')⟩
/-- a list or a tuple that is walked -/
def iSq (K : PySem.W.Frag) (tl : TE) : TI := fun σ H R => tl σ H fun x H1 => ∃ a xs, x = .ref a ∧ ((SqL K H1 a xs ∧ R (Itl K a) H1) ∨ (SqT K H1 a xs ∧ R (Itt K a) H1))
theorem pi_sq {l : Expr} {tl : TE} (hl : PE X l tl) : PI X tg l (iSq X.K tl) := by
  refine ⟨fun pins s σ H R I h => ?_⟩
  refine thn (hl.run pins s σ H _ I h) fun v s1 ⟨x, H1, I1, r1, a, xs, e, q⟩ => ?_
  subst e
  cases r1
  have fp : ∀ b ∈ [s1.heap.objs.size], FpOk X pins H1 b := fun b hb => by
    rw [List.mem_singleton.mp hb]
    exact I1.fpOk (Nat.le_refl _) (I1.hok.fresh (Nat.le_refl _))
  rcases q with ⟨hq, q⟩ | ⟨hq, q⟩
  · obtain ⟨its, rv, p, hz⟩ := I1.list hq
    exact wpAny_pyIter_list p.isList ⟨_, _, _, _, H1, rfl, I1.kept (t' := s1.toks) fun b o e => Heap.get?_push_of_some _ e, turn_list a _, ⟨_, Heap.get?_push_size _ rfl, rfl, rfl⟩, fp, q⟩
  · obtain ⟨its, rv, p, hz⟩ := I1.tuple hq
    exact wpAny_pyIter_tuple (show s1.heap.IsTuple a its.toArray from p) ⟨_, _, _, _, H1, rfl, I1.kept (t' := s1.toks) fun b o e => Heap.get?_push_of_some _ e, turn_tuple a _, ⟨_, Heap.get?_push_size _ rfl, rfl, rfl⟩, fp, q⟩
theorem si_seq (ha : PE X a (tE X.K Φ ca)) : PI X tg a (tI X.K Φ .seq (.cons ca .nil)) :=
  pi_w (pi_sq ha) fun σ H R ⟨S, ρ, ds, xs, RR, e1, e2, q⟩ => by
    simp only [evs] at e1
    obtain ⟨d, e3, e4⟩ := Option.bind_eq_some_iff.mp e1
    obtain ⟨p, e5, e6⟩ := Option.bind_eq_some_iff.mp e3
    cases e4
    refine tE_of RR e5 fun v H1 S1 g1 r1 _ => ?_
    obtain ⟨S2, g2, _, r2⟩ := r1.take g1 e6
    have e2 : itemsL d = some xs := e2
    cases d with
    | list es =>
      cases e2
      obtain ⟨ad, ws, rfl, s, e, r3⟩ := r2.listAt
      exact ⟨ad, ws, rfl, .inl ⟨SqL.of e, q _ H1 S2 g2 (walkD_list (Kp.listAt s e) r3)⟩⟩
    | tuple es =>
      cases e2
      obtain ⟨ad, ws, rfl, s, r3⟩ := Rb.tuple (.inr r2)
      exact ⟨ad, ws, rfl, .inr ⟨s, q _ H1 S2 g2 (walkD_tup s r3)⟩⟩
    | dict kvs =>
      rw [asR_some e2] at r2
      obtain ⟨ad, ws, rfl, s, r3⟩ := Rb.scr (.inr r2)
      exact ⟨ad, ws, rfl, .inl ⟨s.sq, q _ H1 S2 g2 (walkD_list (fun H' S' k => (k.readL s).sq) r3)⟩⟩
    | none => cases e2
    | bool _ => cases e2
    | int _ => cases e2
    | str _ => cases e2
/-! ### comprehensions -/
/-- the ifs: none or one -/
def tIfs (K : PySem.W.Frag) (Φ : Ph) (c : C) : TT := tT K Φ c
theorem sp_nil : PTs X [] (tT X.K Φ (.cst (.bool true))) := ⟨fun pins s σ H Q I ⟨S, ρ, r, b, R, e, eb, q⟩ => pts_nil.run pins s σ H Q I (by
  cases e
  cases eb
  exact q H S (Gr.refl R.live))⟩
theorem sp_one {c : Expr} {cc : C} (h : PT X c (tT X.K Φ cc)) : PTs X [c] (tT X.K Φ cc) := pts_one h
theorem Rep.wipes {K : PySem.W.Frag} {σ : L2.St} {H : Hp} {S : Ad} {ρ ρ' : Rho} {t : Tg} {v : V} {d : D} {Q : L2.St → Hp → Prop} (hn : (tgSlots t).Nodup) (R : Rep K σ H S ρ) (r : Rp K H S v d) (e : bindT t d ρ = some ρ')
    (q : ∀ σ', wipe σ' (tgSlots t) = wipe σ (tgSlots t) → Rep K σ' H S ρ' → Q σ' H) : tG K t v (wipe σ (tgSlots t)) H Q := by
  cases t with
  | nm i =>
    cases e
    show Q ((σ.set i none).set i (some v)) H
    rw [List.set_set]
    exact q _ (wipe_setSt (is := [i]) (js := [i]) (vs := [v]) (σ := σ) fun _ h => h) (R.set i r)
  | tu is =>
    obtain ⟨ds, e1, e2⟩ := Option.bind_eq_some_iff.mp (show (asTL d).bind _ = some ρ' from e)
    obtain ⟨a, vs, rfl, hs, r2⟩ := Rb.seqX (.inr r) e1
    have hl := setMany_len e2
    have hl2 : is.length = vs.length := by rw [r2.length]; exact hl
    refine ⟨a, vs, rfl, hs, hl2.symm, ?_⟩
    show Q (setSt is vs (wipe σ is)) H
    rw [setSt_wipe (show is.Nodup from hn) hl2]
    exact q _ (wipe_setSt fun _ h => h) (Rep.setMany is R r2 e2)
theorem lcGo_len {t : Tg} {cond elt : Rho → Option (D × Os)} {ρ : Rho} : ∀ {xs ys : List D}, lcGo t cond elt ρ xs = some ys → ys.length ≤ xs.length
  | [], _, h => by cases h; simp
  | x :: xs, ys, h => by
    simp only [lcGo, Option.bind_eq_bind] at h
    obtain ⟨ρ1, _, h⟩ := Option.bind_eq_some_iff.mp h
    obtain ⟨b, _, h⟩ := Option.bind_eq_some_iff.mp h
    cases b with
    | true =>
      simp only [if_true] at h
      obtain ⟨y, _, h⟩ := Option.bind_eq_some_iff.mp h
      obtain ⟨zs, h2, h⟩ := Option.bind_eq_some_iff.mp h
      cases h
      have := lcGo_len h2
      simp only [List.length_cons]; omega
    | false =>
      simp only [Bool.false_eq_true, if_false] at h
      have := lcGo_len h
      simp only [List.length_cons]; omega
theorem lcGo_drop {t : Tg} {cond elt : Rho → Option (D × Os)} {ρ : Rho} {xs ys : List D} {i : Nat} {d : D} (h : lcGo t cond elt ρ (xs.drop i) = some ys) (hd : xs[i]? = some d) :
    ∃ ρ1 r b, bindT t d ρ = some ρ1 ∧ cond ρ1 = some r ∧ asB r.1 = some b ∧
      ((b = true ∧ ∃ p y zs, elt ρ1 = some p ∧ take p = some y ∧ lcGo t cond elt ρ (xs.drop (i + 1)) = some zs ∧ ys = y :: zs) ∨ (b = false ∧ lcGo t cond elt ρ (xs.drop (i + 1)) = some ys)) := by
  have hi : i < xs.length := (List.getElem?_eq_some_iff.mp hd).1
  have he : xs.drop i = d :: xs.drop (i + 1) := by
    rw [List.drop_eq_getElem_cons hi]
    have := (List.getElem?_eq_some_iff.mp hd).2
    rw [this]
  rw [he] at h
  simp only [lcGo, Option.bind_eq_bind] at h
  obtain ⟨ρ1, e1, h⟩ := Option.bind_eq_some_iff.mp h
  obtain ⟨b, e2, h⟩ := Option.bind_eq_some_iff.mp h
  obtain ⟨r, e2, e3⟩ := Option.bind_eq_some_iff.mp e2
  refine ⟨ρ1, r, b, e1, e2, e3, ?_⟩
  cases b with
  | true =>
    simp only [if_true] at h
    obtain ⟨y, e4, h⟩ := Option.bind_eq_some_iff.mp h
    obtain ⟨p, e4, e5⟩ := Option.bind_eq_some_iff.mp e4
    obtain ⟨zs, e6, h⟩ := Option.bind_eq_some_iff.mp h
    cases h
    exact .inl ⟨rfl, p, y, zs, e4, e5, e6, rfl⟩
  | false =>
    simp only [Bool.false_eq_true, if_false] at h
    exact .inr ⟨rfl, h⟩
/-- the reading of a comprehension, from the code's -/
theorem tLc_of {K : PySem.W.Frag} {k : Ik} {t : Tg} {ci cc ce : C} {σ : L2.St} {H : Hp} {S : Ad} {ρ : Rho} {r : D × Os} {Q : VK} (hn : (tgSlots t).Nodup) (R : Rep K σ H S ρ) (e : ev Φ (.lc t k ci cc ce) ρ = some r)
    (q : ∀ v H' S', Gr H S H' S' → Rs K H H' S' r v → Q v H') : tLc (tI K Φ k ci) (tG K t) (tT K Φ cc) (tE K Φ ce) (tgSlots t) σ H Q := by
  simp only [ev] at e
  obtain ⟨ds, e1, e⟩ := Option.bind_eq_some_iff.mp e
  obtain ⟨xs, e2, e⟩ := Option.bind_eq_some_iff.mp e
  split at e
  · rename_i hz
    obtain ⟨ys, e3, e4⟩ := Option.map_eq_some_iff.mp e
    subst e4
    refine ⟨S, ρ, ds, xs, R, e1, e2, fun J H1 S1 g1 w Dd hD => ?_⟩
    have g2 : Gr H1 S1 (upd H1 Dd (.lst [])) S1 := Gr.new1 g1.live hD
    have hDS : ¬ S1 Dd := fun s => g1.live _ s hD
    refine lc_it w (fun i H2 => ∃ S2 as done todo, Gr H S H2 S2 ∧ Kp H1 S1 H2 S2 ∧ Rep K σ H2 S2 ρ ∧ ¬ S2 Dd ∧ H2 Dd = some (.lst as) ∧ RpAll K H2 S2 as done ∧ lcGo t (fun ρ => ev Φ cc ρ) (fun ρ => ev Φ ce ρ) ρ (xs.drop i) = some todo ∧ ys = done ++ todo ∧ done.length ≤ i)
      ?_ ?_ ?_ ?_
    · exact ⟨S1, [], [], ys, g1.trans g2, g2.kp, (R.grow g1).grow g2, hDS, upd_same, .nil, by simpa using e3, rfl, Nat.le_refl _⟩
    · rintro i H2 _ ⟨S2, as, done, todo, gg, kk, _⟩
      exact ⟨S2, kk, gg.live⟩
    · rintro i x H2 H3 hi ⟨S2, as, done, todo, gg, kk, R2, nD, aD, rD, et, ey, hl⟩ y
      obtain ⟨d, h1, g3, r3⟩ := y S2 kk gg.live
      obtain ⟨ρ1, rc, b, b1, b2, b3, b4⟩ := lcGo_drop et h1
      have R3 := R2.grow g3
      refine Rep.wipes hn R3 r3 b1 fun σ' hw R4 => ⟨hw, ?_⟩
      refine tT_of R4 b2 b3 fun H4 S4 g4 R5 => ?_
      rcases b4 with ⟨rfl, p, yv, zs, c1, c2, c3, rfl⟩ | ⟨rfl, c1⟩
      · rw [if_pos rfl]
        refine tE_of R5 c1 fun v H5 S5 g5 r5 _ => ?_
        have aD5 : H5 Dd = some (.lst as) := g5.ex _ _ (g4.ex _ _ (g3.ex _ _ aD))
        have n4 : ¬ S4 Dd := fun s => by
          rcases g4.new _ s with s | s
          · exact nD s
          · rw [g3.ex _ _ aD] at s; cases s
        obtain ⟨S6, g6, s6, r6⟩ := r5.take g5 c2
        have g7 : Gr H2 S2 H5 S6 := (g3.trans g4).trans g6
        have n6 : ¬ S6 Dd := fun s => by
          rcases g7.new _ s with s | s
          · exact nD s
          · rw [aD] at s; cases s
        have k8 : Kp H5 S6 (upd H5 Dd (.lst (as ++ [v]))) S6 := ⟨fun _ h => h, fun a o s h => by
          rw [upd_ne (by rintro rfl; exact n6 s)]; exact h, fun a o h nm => by
          rw [upd_ne (by rintro rfl; rw [aD5] at h; cases h; exact nm trivial)]; exact h⟩
        have live8 : ∀ a, S6 a → upd H5 Dd (.lst (as ++ [v])) a ≠ none := fun a s => by
          rw [upd_ne (by rintro rfl; exact n6 s)]; exact g6.live a s
        have hDn : H Dd = none := g1.fresh hD
        have g9 : Gr H S (upd H5 Dd (.lst (as ++ [v]))) S6 := ⟨fun a o h => by
          rw [upd_ne (ne_of_none h hDn)]; exact g7.ex _ _ (gg.ex _ _ h), fun a s => g7.sub _ (gg.sub _ s), (gg.trans g7).new, live8⟩
        have hzz : as.length < sizeLine := by
          have z1 := rD.length
          have z2 := le_line hz
          omega
        refine ⟨as, aD5, hzz, S6, as ++ [v], done ++ [yv], zs, g9, ⟨fun a s => g7.sub _ (kk.sub _ s), fun a o s h => k8.obj _ _ (g7.sub _ (kk.sub _ s)) (g7.ex _ _ (kk.obj _ _ s h)), fun a o h nm => k8.nmu _ _ (g7.ex _ _ (kk.nmu _ _ h nm)) nm⟩, ?_, n6, upd_same, ?_, c3, by rw [ey]; simp, by simp; omega⟩
        · exact R.grow g9
        · exact (((rD.keep g7.kp _ _).keep k8 _ _).append (.cons (r6.keep k8 _ _) .nil))
      · rw [if_neg Bool.false_ne_true]
        have g5 := g3.trans g4
        have n4 : ¬ S4 Dd := fun s => by
          rcases g5.new _ s with s | s
          · exact nD s
          · rw [aD] at s; cases s
        refine ⟨S4, as, done, todo, gg.trans g5, ⟨fun a s => g5.sub _ (kk.sub _ s), fun a o s h => g5.ex _ _ (kk.obj _ _ s h), fun a o h nm => g5.ex _ _ (kk.nmu _ _ h nm)⟩, R2.grow g5, n4, g5.ex _ _ aD, rD.keep g5.kp _ _, c1, ey, by omega⟩
    · rintro H2 ⟨S2, as, done, todo, gg, kk, R2, nD, aD, rD, et, ey, hl⟩
      rw [List.drop_length] at et
      cases et
      rw [List.append_nil] at ey
      subst ey
      exact q _ H2 S2 gg ⟨Dd, rfl, g1.fresh hD, nD, .lst aD rD⟩
  · cases e
end Pv

set_option Elab.async false
set_option linter.all false
set_option maxRecDepth 100000
/-! Pv5: statements. -/
namespace Pv
open PySem L2 PyProof.Rows
variable {X : Cx} {Φ : Ph}
/-- the addresses that the slots own -/
def ownA (σ : L2.St) (ρ : Rho) (a : Addr) : Prop := ∃ (i : Nat) (d : D), ρ[i]? = some (some (d, true)) ∧ σ[i]? = some (some (.ref a))
/-- what a statement leaves: O may be written, may be frozen -/
structure Gs (O : Ad) (H : Hp) (S : Ad) (H' : Hp) (S' : Ad) : Prop where
  obj : ∀ a o, H a = some o → ¬ O a → H' a = some o
  there : ∀ a, H a ≠ none → H' a ≠ none
  sub : ∀ a, S a → S' a
  new : ∀ a, S' a → S a ∨ O a ∨ H a = none
section
variable {K : PySem.W.Frag} {σ σ' : L2.St} {H H1 H2 H' : Hp} {S S1 S2 S' : Ad} {ρ ρ' : Rho} {O O1 : Ad}
theorem Gs.refl : Gs O H S H S := ⟨fun _ _ h _ => h, fun _ h => h, fun _ h => h, fun _ h => .inl h⟩
theorem Gr.gs (g : Gr H S H' S') : Gs O H S H' S' := ⟨fun a o h _ => g.ex a o h, fun a h e => h (g.fresh e), g.sub, fun a s => by
  rcases g.new a s with s | s
  · exact .inl s
  · exact .inr (.inr s)⟩
theorem Gs.trans (a : Gs O H S H1 S1) (hO : ∀ x, O1 x → O x ∨ H x = none) (b : Gs O1 H1 S1 H2 S2) : Gs O H S H2 S2 := by
  refine ⟨fun x o h n => b.obj x o (a.obj x o h n) fun n1 => ?_, fun x h => b.there x (a.there x h), fun x s => b.sub x (a.sub x s), fun x s => ?_⟩
  · rcases hO x n1 with q | q
    · exact n q
    · rw [h] at q; cases q
  · rcases b.new x s with s | s | s
    · exact a.new x s
    · rcases hO x s with q | q
      · exact .inr (.inl q)
      · exact .inr (.inr q)
    · right; right
      cases e : H x with
      | none => rfl
      | some o => exact absurd s (a.there x (by rw [e]; simp))
/-- where nothing is owned -/
theorem Gs.gr (g : Gs O H S H' S') (hO : ∀ a, ¬ O a) (l : ∀ a, S' a → H' a ≠ none) : Gr H S H' S' := ⟨fun a o h => g.obj a o h (hO a), g.sub, fun a s => by
  rcases g.new a s with s | s | s
  · exact .inl s
  · exact absurd s (hO a)
  · exact .inr s, l⟩
/-! ### freezing -/
theorem frzAt_get (F : List Nat) : ∀ (ρ : Rho) (n i : Nat), (frzAt F n ρ)[i]? = (ρ[i]?).map fun s => s.map fun p => (p.1, p.2 && !(F.contains (n + i)))
  | [], _, _ => by simp [frzAt]
  | none :: r, n, 0 => by simp [frzAt]
  | some (d, o) :: r, n, 0 => by simp [frzAt]
  | none :: r, n, i + 1 => by
    simp only [frzAt, List.getElem?_cons_succ]
    rw [frzAt_get F r (n + 1) i, show n + 1 + i = n + (i + 1) by omega]
  | some (d, o) :: r, n, i + 1 => by
    simp only [frzAt, List.getElem?_cons_succ]
    rw [frzAt_get F r (n + 1) i, show n + 1 + i = n + (i + 1) by omega]
theorem frz_get (F : List Nat) (ρ : Rho) (i : Nat) : (frz F ρ)[i]? = (ρ[i]?).map fun s => s.map fun p => (p.1, p.2 && !(F.contains i)) := by
  unfold frz
  split
  · cases h : ρ[i]? with
    | none => rfl
    | some s => cases s with
      | none => rfl
      | some p => simp
  · rw [frzAt_get]; simp
theorem frz_own {F : List Nat} {i : Nat} {d : D} (h : (frz F ρ)[i]? = some (some (d, true))) : ρ[i]? = some (some (d, true)) ∧ i ∉ F := by
  rw [frz_get] at h
  cases e : ρ[i]? with
  | none => rw [e] at h; cases h
  | some s => cases s with
    | none => rw [e] at h; cases h
    | some p =>
      obtain ⟨d', o⟩ := p
      rw [e] at h
      simp only [Option.map_some, Option.some.injEq, Prod.mk.injEq, Bool.and_eq_true, Bool.not_eq_true', List.contains_eq_mem, decide_eq_false_iff_not] at h
      obtain ⟨rfl, rfl, h⟩ := h
      exact ⟨rfl, h⟩
theorem frz_len (F : List Nat) (ρ : Rho) : (frz F ρ).length = ρ.length := by
  unfold frz
  split
  · rfl
  · have : ∀ (r : Rho) (n : Nat), (frzAt F n r).length = r.length := by
      intro r
      induction r with
      | nil => intro n; rfl
      | cons s r ih =>
        intro n
        cases s with
        | none => simp [frzAt, ih]
        | some p => obtain ⟨d, o⟩ := p; simp [frzAt, ih]
    exact this ρ 0
theorem ownA_frz {F : List Nat} {a : Addr} (h : ownA σ (frz F ρ) a) : ownA σ ρ a := by
  obtain ⟨i, d, e1, e2⟩ := h
  exact ⟨i, d, (frz_own e1).1, e2⟩
theorem Rep.frz (F : List Nat) (R : Rep K σ H S ρ) : ∃ S', (∀ a, S a → S' a) ∧ (∀ a, S' a → S a ∨ ownA σ ρ a) ∧ Rep K σ H S' (Pv.frz F ρ) := by
  refine ⟨fun a => S a ∨ ∃ (i : Nat) (d : D), i ∈ F ∧ ρ[i]? = some (some (d, true)) ∧ σ[i]? = some (some (.ref a)), fun a h => .inl h, fun a h => ?_, ?_⟩
  · rcases h with h | ⟨i, d, _, e1, e2⟩
    · exact .inl h
    · exact .inr ⟨i, d, e1, e2⟩
  · have kk : Kp H S H (fun a => S a ∨ ∃ (i : Nat) (d : D), i ∈ F ∧ ρ[i]? = some (some (d, true)) ∧ σ[i]? = some (some (.ref a))) := ⟨fun a h => .inl h, fun _ _ _ h => h, fun _ _ h _ => h⟩
    refine ⟨by rw [frz_len]; exact R.len, fun i d o e => ?_, fun i j d d' a hij e1 e2 => R.ap i j d d' a hij (frz_own e1).1 (frz_own e2).1, fun a h => ?_⟩
    · rw [frz_get] at e
      cases e0 : ρ[i]? with
      | none => rw [e0] at e; cases e
      | some s => cases s with
        | none => rw [e0] at e; cases e
        | some p =>
          obtain ⟨d', o'⟩ := p
          rw [e0] at e
          simp only [Option.map_some, Option.some.injEq, Prod.mk.injEq] at e
          obtain ⟨rfl, e⟩ := e
          obtain ⟨v, h1, h2⟩ := R.val i _ _ e0
          refine ⟨v, h1, ?_⟩
          cases o' with
          | false =>
            rw [Bool.false_and] at e
            subst e
            simp only [Bool.false_eq_true, if_false] at h2 ⊢
            exact h2.keep kk _ _
          | true =>
            simp only [if_true] at h2
            obtain ⟨a, rfl, ns, c⟩ := h2
            cases hF : F.contains i with
            | true =>
              rw [hF] at e
              subst e
              simp only [Bool.not_true, Bool.and_false, Bool.false_eq_true, if_false]
              exact .cont (.inr ⟨i, _, by simpa using hF, e0, h1⟩) (c.keep kk fun _ h => h)
            | false =>
              rw [hF] at e
              subst e
              simp only [Bool.not_false, Bool.and_true, if_true]
              refine ⟨a, rfl, fun h => ?_, c.keep kk fun _ h => h⟩
              rcases h with h | ⟨j, d2, hj, e1, e2⟩
              · exact ns h
              · have hne : i ≠ j := by
                  rintro rfl
                  rw [show F.contains i = true by simpa using hj] at hF
                  cases hF
                exact R.ap i j _ _ a hne e0 e1 h1 e2
    · rcases h with h | ⟨i, d, _, e1, e2⟩
      · exact R.live a h
      · obtain ⟨v, h1, h2⟩ := R.val i _ _ e1
        rw [h1] at e2
        cases e2
        obtain ⟨b, e, _, c⟩ := (show Own K H S (.ref a) d by simpa using h2)
        cases e
        obtain ⟨o, ho, _⟩ := c.there
        rw [ho]; simp
/-- an expression in a statement -/
theorem tE_aft {F : List Nat} {c : C} {r : D × Os} {Q : VK} (R : Rep K σ H S ρ) (e : ev Φ c (Pv.frz F ρ) = some r)
    (q : ∀ v H' S', Gs (ownA σ ρ) H S H' S' → Rep K σ H' S' (aft F ρ r.1) → Rs K H H' S' r v → (∀ a o, H a = some o → H' a = some o) → Q v H') : tE K Φ c σ H Q := by
  obtain ⟨S0, s1, s2, R0⟩ := R.frz F
  refine ⟨S0, _, r, R0, e, fun v H' S' g rs => ?_⟩
  unfold aft at q
  have gsub : ∀ a, S a → S' a := fun a s => g.sub a (s1 a s)
  by_cases hs : flat r.1 = true
  · rw [if_pos hs] at q
    have g0 : Gr H S H' S := ⟨g.ex, fun _ h => h, fun _ h => .inl h, fun a s => by
      cases e : H a with
      | none => exact absurd e (R.live a s)
      | some o => rw [g.ex a o e]; simp⟩
    refine q v H' S g0.gs (R.grow g0) ?_ g.ex
    obtain ⟨d, os⟩ := r
    cases os with
    | z => exact Rp.flat d v hs rs
    | f =>
      obtain ⟨a, _, _, _, c⟩ := rs
      cases c with
      | lst _ _ => simp [flat] at hs
      | dct _ _ => simp [flat] at hs
      | dci _ _ => simp [flat] at hs
    | b => exact .inr (Rb.flat rs hs)
  · rw [if_neg hs] at q
    refine q v H' S' ⟨fun a o h _ => g.ex a o h, fun a h e => h (g.fresh e), gsub, fun a s => ?_⟩ (R0.grow g) rs g.ex
    rcases g.new a s with s | s
    · rcases s2 a s with s | s
      · exact .inl s
      · exact .inr (.inl s)
    · exact .inr (.inr s)
theorem tE_frz {F : List Nat} {c : C} {r : D × Os} {Q : VK} (R : Rep K σ H S ρ) (e : ev Φ c (Pv.frz F ρ) = some r)
    (q : ∀ v H' S', Gs (ownA σ ρ) H S H' S' → Rep K σ H' S' (Pv.frz F ρ) → Rs K H H' S' r v → (∀ a o, H a = some o → H' a = some o) → Q v H') : tE K Φ c σ H Q := by
  obtain ⟨S0, s1, s2, R0⟩ := R.frz F
  refine ⟨S0, _, r, R0, e, fun v H' S' g rs => ?_⟩
  refine q v H' S' ⟨fun a o h _ => g.ex a o h, fun a h e => h (g.fresh e), fun a s => g.sub a (s1 a s), fun a s => ?_⟩ (R0.grow g) rs g.ex
  rcases g.new a s with s | s
  · rcases s2 a s with s | s
    · exact .inl s
    · exact .inr (.inl s)
  · exact .inr (.inr s)
theorem tE_aftR {F : List Nat} {c : C} {r : D × Os} {Q : VK} (R : Rep K σ H S ρ) (e : ev Φ c (Pv.frz F ρ) = some r)
    (q : ∀ v H' S', Gs (ownA σ ρ) H S H' S' → Rep K σ H' S' (aftR F ρ r) → Rs K H H' S' r v → (∀ a o, H a = some o → H' a = some o) → Q v H') : tE K Φ c σ H Q := by
  obtain ⟨S0, s1, s2, R0⟩ := R.frz F
  refine ⟨S0, _, r, R0, e, fun v H' S' g rs => ?_⟩
  unfold aftR at q
  have gsub : ∀ a, S a → S' a := fun a s => g.sub a (s1 a s)
  by_cases hs : keepS r = true
  · rw [if_pos hs] at q
    have g0 : Gr H S H' S := ⟨g.ex, fun _ h => h, fun _ h => .inl h, fun a s => by
      cases e : H a with
      | none => exact absurd e (R.live a s)
      | some o => rw [g.ex a o e]; simp⟩
    refine q v H' S g0.gs (R.grow g0) ?_ g.ex
    obtain ⟨d, os⟩ := r
    cases os with
    | z => exact Rp.flat d v (by cases d <;> first | exact hs | rfl) rs
    | f =>
      obtain ⟨a, ea, h0, ns, c⟩ := rs
      refine ⟨a, ea, h0, fun s => ns (gsub a s), ?_⟩
      cases c with
      | lst eL r => exact .lst eL (RpAll.flat _ _ hs r)
      | dct _ _ => simp [keepS, flat] at hs
      | dci _ _ => simp [keepS, flat] at hs
    | b => exact .inr (Rb.flat rs (by cases d <;> first | exact hs | rfl))
  · rw [if_neg hs] at q
    refine q v H' S' ⟨fun a o h _ => g.ex a o h, fun a h e => h (g.fresh e), gsub, fun a s => ?_⟩ (R0.grow g) rs g.ex
    rcases g.new a s with s | s
    · rcases s2 a s with s | s
      · exact .inl s
      · exact .inr (.inl s)
    · exact .inr (.inr s)
theorem ownA_aft {F : List Nat} {d : D} {a : Addr} (h : ownA σ (aft F ρ d) a) : ownA σ ρ a := by
  unfold aft at h
  split at h
  · exact h
  · exact ownA_frz h
theorem ownA_aftR {F : List Nat} {r : D × Os} {a : Addr} (h : ownA σ (aftR F ρ r) a) : ownA σ ρ a := by
  unfold aftR at h
  split at h
  · exact h
  · exact ownA_frz h
/-- a test in a statement -/
theorem tT_aft {F : List Nat} {c : C} {r : D × Os} {k : Bool} {Q : Bool → Hp → Prop} (R : Rep K σ H S ρ) (e : ev Φ c (Pv.frz F ρ) = some r) (eb : asB r.1 = some k)
    (q : ∀ H', Gr H S H' S → Rep K σ H' S ρ → Q k H') : tT K Φ c σ H Q := by
  obtain ⟨S0, s1, s2, R0⟩ := R.frz F
  refine ⟨S0, _, r, k, R0, e, eb, fun H' S' g => ?_⟩
  have g0 : Gr H S H' S := ⟨g.ex, fun _ h => h, fun _ h => .inl h, fun a s => by
    cases e : H a with
    | none => exact absurd e (R.live a s)
    | some o => rw [g.ex a o e]; simp⟩
  exact q H' g0 (R.grow g0)
/-- an owner writes -/
theorem Rep.mut {i : Nat} {a : Addr} {xs xs' : List V} {ds ds' : List D} (R : Rep K σ H S ρ) (e1 : ρ[i]? = some (some (.list ds, true))) (e2 : σ[i]? = some (some (.ref a))) (eH : H a = some (.lst xs)) (ns : ¬ S a) (r : RpAll K H S xs' ds') :
    Rep K σ (upd H a (.lst xs')) S (ρ.set i (some (.list ds', true))) := by
  have kk : Kp H S (upd H a (.lst xs')) S := ⟨fun _ h => h, fun b o s h => by
    rw [upd_ne (by rintro rfl; exact ns s)]; exact h, fun b o h nm => by
    rw [upd_ne (by rintro rfl; rw [eH] at h; cases h; exact nm trivial)]; exact h⟩
  have hi : i < ρ.length := (List.getElem?_eq_some_iff.mp e1).1
  have look : ∀ {m : Nat} {e : D} {o : Bool}, (ρ.set i (some (.list ds', true)))[m]? = some (some (e, o)) → (m = i ∧ e = .list ds' ∧ o = true) ∨ (m ≠ i ∧ ρ[m]? = some (some (e, o))) := fun {m e o} h => by
    by_cases hm : i = m
    · subst hm
      rw [List.getElem?_set_self hi] at h
      cases h
      exact .inl ⟨rfl, rfl, rfl⟩
    · rw [List.getElem?_set_ne hm] at h
      exact .inr ⟨Ne.symm hm, h⟩
  refine ⟨by rw [List.length_set]; exact R.len, fun j d o e => ?_, fun j k d d' b hjk f1 f2 f3 => ?_, fun b s => ?_⟩
  · rcases look e with ⟨rfl, rfl, rfl⟩ | ⟨hj, e⟩
    · exact ⟨_, e2, a, rfl, ns, .lst upd_same (r.keep kk _ _)⟩
    · obtain ⟨v, h1, h2⟩ := R.val j d o e
      refine ⟨v, h1, ?_⟩
      cases o with
      | false => exact Rp.keep kk d v (by simpa using h2)
      | true =>
        obtain ⟨b, rfl, nb, c⟩ := (show Own K H S v d by simpa using h2)
        refine ⟨b, rfl, nb, c.keep kk fun o h => ?_⟩
        rw [upd_ne]
        · exact h
        · rintro rfl
          exact R.ap j i _ _ b hj e e1 h1 e2
  · have g1 : ∃ d, ρ[j]? = some (some (d, true)) := by
      rcases look f1 with ⟨rfl, _, _⟩ | ⟨_, e⟩
      · exact ⟨_, e1⟩
      · exact ⟨_, e⟩
    have g2 : ∃ d, ρ[k]? = some (some (d, true)) := by
      rcases look f2 with ⟨rfl, _, _⟩ | ⟨_, e⟩
      · exact ⟨_, e1⟩
      · exact ⟨_, e⟩
    obtain ⟨_, g1⟩ := g1
    obtain ⟨_, g2⟩ := g2
    exact R.ap j k _ _ b hjk g1 g2 f3
  · rw [upd_ne (by rintro rfl; exact ns s)]
    exact R.live b s
theorem Rep.mutG {i : Nat} {a : Addr} {o0 o1 : HO} {d0 d1 : D} (R : Rep K σ H S ρ) (e1 : ρ[i]? = some (some (d0, true))) (e2 : σ[i]? = some (some (.ref a))) (eH : H a = some o0) (mu : Mut (some o0)) (ns : ¬ S a) (r : Kp H S (upd H a o1) S → Ct K (upd H a o1) S a d1) :
    Rep K σ (upd H a o1) S (ρ.set i (some (d1, true))) := by
  have kk : Kp H S (upd H a o1) S := ⟨fun _ h => h, fun b o s h => by
    rw [upd_ne (by rintro rfl; exact ns s)]; exact h, fun b o h nm => by
    rw [upd_ne (by rintro rfl; rw [eH] at h; cases h; exact nm mu)]; exact h⟩
  have hi : i < ρ.length := (List.getElem?_eq_some_iff.mp e1).1
  have look : ∀ {m : Nat} {e : D} {o : Bool}, (ρ.set i (some (d1, true)))[m]? = some (some (e, o)) → (m = i ∧ e = d1 ∧ o = true) ∨ (m ≠ i ∧ ρ[m]? = some (some (e, o))) := fun {m e o} h => by
    by_cases hm : i = m
    · subst hm
      rw [List.getElem?_set_self hi] at h
      cases h
      exact .inl ⟨rfl, rfl, rfl⟩
    · rw [List.getElem?_set_ne hm] at h
      exact .inr ⟨Ne.symm hm, h⟩
  refine ⟨by rw [List.length_set]; exact R.len, fun j d o e => ?_, fun j k d d' b hjk f1 f2 f3 => ?_, fun b s => ?_⟩
  · rcases look e with ⟨rfl, rfl, rfl⟩ | ⟨hj, e⟩
    · exact ⟨_, e2, a, rfl, ns, r kk⟩
    · obtain ⟨v, h1, h2⟩ := R.val j d o e
      refine ⟨v, h1, ?_⟩
      cases o with
      | false => exact Rp.keep kk d v (by simpa using h2)
      | true =>
        obtain ⟨b, rfl, nb, c⟩ := (show Own K H S v d by simpa using h2)
        refine ⟨b, rfl, nb, c.keep kk fun o h => ?_⟩
        rw [upd_ne]
        · exact h
        · rintro rfl
          exact R.ap j i _ _ b hj e e1 h1 e2
  · have g1 : ∃ d, ρ[j]? = some (some (d, true)) := by
      rcases look f1 with ⟨rfl, _, _⟩ | ⟨_, e⟩
      · exact ⟨_, e1⟩
      · exact ⟨_, e⟩
    have g2 : ∃ d, ρ[k]? = some (some (d, true)) := by
      rcases look f2 with ⟨rfl, _, _⟩ | ⟨_, e⟩
      · exact ⟨_, e1⟩
      · exact ⟨_, e⟩
    obtain ⟨_, g1⟩ := g1
    obtain ⟨_, g2⟩ := g2
    exact R.ap j k _ _ b hjk g1 g2 f3
  · rw [upd_ne (by rintro rfl; exact ns s)]
    exact R.live b s
theorem ownA_set {i : Nat} {d d' : D} {a : Addr} (e1 : ρ[i]? = some (some (d, true))) (h : ownA σ (ρ.set i (some (d', true))) a) : ownA σ ρ a := by
  obtain ⟨j, e, h1, h2⟩ := h
  by_cases hj : i = j
  · subst hj; exact ⟨i, d, e1, h2⟩
  · rw [List.getElem?_set_ne hj] at h1
    exact ⟨j, e, h1, h2⟩
end
/-! ### outcomes -/
/-- how a returned value stands -/
def Rv (K : PySem.W.Frag) (O : Ad) (H H' : Hp) (S' : Ad) (w : Bool) (v : V) (d : D) : Prop := if w = true then ∃ a, v = .ref a ∧ (O a ∨ H a = none) ∧ ¬ S' a ∧ Ct K H' S' a d else Rp K H' S' v d
def Post (K : PySem.W.Frag) (E : Ends) (O : Ad) (H : Hp) (S : Ad) : Out → Prop
  | .next ρ' => ∀ σ' H' S', Gs O H S H' S' → Rep K σ' H' S' ρ' → (∀ a, ownA σ' ρ' a → O a ∨ H a = none) → E.nx σ' H'
  | .brk ρ' => ∀ σ' H' S', Gs O H S H' S' → Rep K σ' H' S' ρ' → (∀ a, ownA σ' ρ' a → O a ∨ H a = none) → E.bk σ' H'
  | .ret d w => ∀ v H' S', Gs O H S H' S' → (∀ a, S' a → H' a ≠ none) → Rv K O H H' S' w v d → E.rt v H'
def tS (K : PySem.W.Frag) (Φ : Ph) (c : C) : TS := fun E σ H => ∃ S ρ o, Rep K σ H S ρ ∧ exec Φ c ρ = some o ∧ Post K E (ownA σ ρ) H S o
theorem ps_w {s : Stmt} {t t' : TS} (h : PS X s t) (w : ∀ E σ H, t' E σ H → t E σ H) : PS X s t' := ⟨fun pins st σ H E I q => h.run pins st σ H E I (w E σ H q)⟩
theorem pss_w {s : List Stmt} {t t' : TS} (h : PSs X s t) (w : ∀ E σ H, t' E σ H → t E σ H) : PSs X s t' := ⟨fun pins st σ H E I q => h.run pins st σ H E I (w E σ H q)⟩
section
variable {K : PySem.W.Frag} {σ σ' : L2.St} {H H1 H2 H' : Hp} {S S1 S2 S' : Ad} {ρ ρ' : Rho} {O O1 : Ad}
/-- behind a first step -/
theorem Post.after {E : Ends} {o : Out} (p : Post K E O H S o) (g : Gs O H S H1 S1) (hO : ∀ x, O1 x → O x ∨ H x = none) : Post K E O1 H1 S1 o := by
  have back : ∀ {x : Addr}, H1 x = none → H x = none := fun {x} h => by
    cases e : H x with
    | none => rfl
    | some o => exact absurd h (g.there x (by rw [e]; simp))
  have ow : ∀ {x : Addr}, O1 x ∨ H1 x = none → O x ∨ H x = none := fun {x} h => h.elim (hO x) fun h => .inr (back h)
  cases o with
  | next ρ' => exact fun σ' H' S' g' R' ho => p σ' H' S' (g.trans hO g') R' fun a h => ow (ho a h)
  | brk ρ' => exact fun σ' H' S' g' R' ho => p σ' H' S' (g.trans hO g') R' fun a h => ow (ho a h)
  | ret d w =>
    refine fun v H' S' g' l rv => p v H' S' (g.trans hO g') l ?_
    cases w with
    | false => exact rv
    | true =>
      obtain ⟨a, e, h, r⟩ := rv
      exact ⟨a, e, ow h, r⟩
theorem Post.next {E : Ends} (p : Post K E (ownA σ ρ) H S (.next ρ')) (g : Gs (ownA σ ρ) H S H1 S1) (R : Rep K σ' H1 S1 ρ') (h : ∀ a, ownA σ' ρ' a → ownA σ ρ a ∨ H a = none) : E.nx σ' H1 := p σ' H1 S1 g R h
end
theorem ss_nil : PSs X [] (tS X.K Φ .nil) := pss_w pss_nil fun E σ H ⟨S, ρ, o, R, e, p⟩ => by
  cases e
  exact p σ H S Gs.refl R fun a h => .inl h
theorem ss_cons {s : Stmt} {r : List Stmt} {a b : C} (ha : PS X s (tS X.K Φ a)) (hb : PSs X r (tS X.K Φ b)) : PSs X (s :: r) (tS X.K Φ (.cons a b)) := pss_w (pss_cons ha hb) fun E σ H ⟨S, ρ, o, R, e, p⟩ => by
  simp only [exec, thenO] at e
  obtain ⟨o1, e1, e2⟩ := Option.bind_eq_some_iff.mp e
  refine ⟨S, ρ, o1, R, e1, ?_⟩
  cases o1 with
  | next ρ1 =>
    simp only at e2
    exact fun σ' H' S' g R' h => ⟨S', ρ1, o, R', e2, p.after g h⟩
  | brk ρ1 => cases e2; exact p
  | ret d w => cases e2; exact p
theorem ss_pass {pos : Pos} : PS X (.Pass pos) (tS X.K Φ .pass) := ps_w ps_pass fun E σ H ⟨S, ρ, o, R, e, p⟩ => by
  cases e
  exact p σ H S Gs.refl R fun a h => .inl h
theorem ss_brk {pos : Pos} : PS X (.Break pos) (tS X.K Φ .brk) := ps_w ps_break fun E σ H ⟨S, ρ, o, R, e, p⟩ => by
  cases e
  exact p σ H S Gs.refl R fun a h => .inl h
/-- code that is never come to -/
theorem ss_never {s : Stmt} : PS X s (tS X.K Φ .never) := ps_w ps_never fun E σ H ⟨S, ρ, o, R, e, p⟩ => by cases e
/-! ### assignments -/
/-- name = e, by its reading -/
theorem asg_of {K : PySem.W.Frag} {i : Nat} {F : List Nat} {c : C} {te : TE} {E : Ends} {σ : L2.St} {H : Hp} (w : ∀ Q, tE K Φ c σ H Q → te σ H Q) (h : tS K Φ (.asg i F c) E σ H) : tAsg te (gName i) E σ H := by
  obtain ⟨S, ρ, o, R, e, p⟩ := h
  simp only [exec] at e
  obtain ⟨r, e1, e2⟩ := Option.bind_eq_some_iff.mp e
  obtain ⟨q, e3, e4⟩ := Option.map_eq_some_iff.mp e2
  subst e4
  refine w _ (tE_aftR R e1 fun v H1 S1 g R1 rs ex => ?_)
  show E.nx (σ.set i (some v)) H1
  obtain ⟨d, os⟩ := r
  cases os with
  | z =>
    cases e3
    refine p _ _ _ g (R1.set i rs) fun a ha => ?_
    obtain ⟨j, d', f1, f2⟩ := ha
    by_cases hj : i = j
    · subst hj
      have hi : i < (aftR F ρ (d, .z)).length := by
        have := (List.getElem?_eq_some_iff.mp f1).1
        simpa using this
      rw [List.getElem?_set_self hi] at f1
      cases f1
    · rw [List.getElem?_set_ne hj] at f1 f2
      exact .inl (ownA_aftR ⟨j, d', f1, f2⟩)
  | f =>
    cases e3
    obtain ⟨a, rfl, h0, ns, ct⟩ := rs
    refine p _ _ _ g (R1.setOwn i ⟨a, rfl, ns, ct⟩ fun j d' hj f1 f2 => ?_) fun b hb => ?_
    · have : ownA σ ρ a := ownA_aftR ⟨j, d', f1, f2⟩
      obtain ⟨k, d2, f3, f4⟩ := this
      obtain ⟨v, f5, f6⟩ := R.val k d2 true f3
      rw [f4] at f5; cases f5
      obtain ⟨b, e, _, c2⟩ := (show Own K H S (.ref a) d2 by simpa using f6)
      cases e
      obtain ⟨ob, hob, _⟩ := c2.there
      rw [hob] at h0; cases h0
    · obtain ⟨j, d', f1, f2⟩ := hb
      by_cases hj : i = j
      · subst hj
        have hi : i < σ.length := by
          have := (List.getElem?_eq_some_iff.mp f2).1
          simpa using this
        rw [List.getElem?_set_self hi] at f2
        cases f2
        exact .inr h0
      · rw [List.getElem?_set_ne hj] at f1 f2
        exact .inl (ownA_aftR ⟨j, d', f1, f2⟩)
  | b => cases e3
theorem ss_asg {i : Nat} {F : List Nat} {x : Str} {e : Expr} {c : C} {pos pos' : Pos} (he : PE X e (tE X.K Φ c)) (hs : PS X (.Assign [.Name x pos'] e pos) (tAsg (tE X.K Φ c) (gName i))) : PS X (.Assign [.Name x pos'] e pos) (tS X.K Φ (.asg i F c)) :=
  ps_w hs fun E σ H h => asg_of (fun _ q => q) h
theorem ss_asgLc {i : Nat} {F : List Nat} {t : Tg} {k : Ik} {ci cc ce : C} {s : Stmt} (hn : (tgSlots t).Nodup) (hs : PS X s (tAsg (tLc (tI X.K Φ k ci) (tG X.K t) (tT X.K Φ cc) (tE X.K Φ ce) (tgSlots t)) (gName i))) : PS X s (tS X.K Φ (.asg i F (.lc t k ci cc ce))) :=
  ps_w hs fun E σ H h => asg_of (fun Q ⟨S, ρ, r, R, e, q⟩ => tLc_of hn R e q) h
theorem ss_unp {is F : List Nat} {e tg : Expr} {c : C} {pos : Pos} (hs : PS X (.Assign [tg] e pos) (tAsg (tE X.K Φ c) (tG X.K (.tu is)))) : PS X (.Assign [tg] e pos) (tS X.K Φ (.unp is F c)) :=
  ps_w hs fun E σ H ⟨S, ρ, o, R, e, p⟩ => by
    simp only [exec] at e
    obtain ⟨r, e1, e2⟩ := Option.bind_eq_some_iff.mp e
    obtain ⟨ds, e3, e4⟩ := Option.bind_eq_some_iff.mp e2
    obtain ⟨ρ', e5, e6⟩ := Option.map_eq_some_iff.mp e4
    subst e6
    refine tE_frz R e1 fun v H1 S1 g R1 rs ex => ?_
    have rb := rs.look
    obtain ⟨a, vs, rfl, hs, r2⟩ := rb.seqX e3
    have hl := setMany_len e5
    refine ⟨a, vs, rfl, hs, by rw [r2.length, hl], ?_⟩
    refine p _ _ _ g (Rep.setMany is R1 r2 e5) fun b hb => .inl ?_
    have key : ∀ (is : List Nat) (ds : List D) (vs : List V) (σ : L2.St) (ρ ρ' : Rho), setMany is ds ρ = some ρ' → vs.length = ds.length → ∀ b, ownA (setSt is vs σ) ρ' b → ownA σ ρ b := by
      intro is
      induction is with
      | nil =>
        intro ds vs σ ρ ρ' h hv b hb
        cases ds with
        | nil => simp [setMany] at h; subst h; exact hb
        | cons => simp [setMany] at h
      | cons i is ih =>
        intro ds vs σ ρ ρ' h hv b hb
        cases ds with
        | nil => simp [setMany] at h
        | cons d ds =>
          cases vs with
          | nil => simp at hv
          | cons v vs =>
            obtain ⟨j, d', f1, f2⟩ := ih ds vs (σ.set i (some v)) (ρ.set i (some (d, false))) ρ' (by simpa [setMany] using h) (by simpa using hv) b hb
            by_cases hj : i = j
            · subst hj
              have hi : i < ρ.length := by
                have := (List.getElem?_eq_some_iff.mp f1).1
                simpa using this
              rw [List.getElem?_set_self hi] at f1
              cases f1
            · rw [List.getElem?_set_ne hj] at f1 f2
              exact ⟨j, d', f1, f2⟩
    exact ownA_frz (key is ds vs σ (frz F ρ) ρ' e5 r2.length b hb)
end Pv

set_option Elab.async false
set_option linter.all false
set_option maxRecDepth 100000
/-! Pv6: statements, further. -/
namespace Pv
open PySem L2 PyProof.Rows
variable {X : Cx} {Φ : Ph}
theorem ownA_set2 {σ : L2.St} {ρ : Rho} {i : Nat} {d : D} {v : V} {a : Addr} (hl : ρ.length = σ.length) (h : ownA (σ.set i (some v)) (ρ.set i (some (d, false))) a) : ownA σ ρ a := by
  obtain ⟨j, d', f1, f2⟩ := h
  by_cases hj : i = j
  · subst hj
    have hi : i < ρ.length := by
      have := (List.getElem?_eq_some_iff.mp f1).1
      simpa using this
    rw [List.getElem?_set_self hi] at f1
    cases f1
  · rw [List.getElem?_set_ne hj] at f1 f2
    exact ⟨j, d', f1, f2⟩
theorem ss_par {i j : Nat} {s : Stmt} {c : C} (hs : PS X s (tPar i j (tAs X.K Φ c))) : PS X s (tS X.K Φ (.par i j c)) := ps_w hs fun E σ H ⟨S, ρ, o, R, e, p⟩ => by
  simp only [exec] at e
  obtain ⟨ds, e1, e2⟩ := Option.bind_eq_some_iff.mp e
  refine ⟨S, ρ, ds, R, e1, fun vs H1 S1 g1 r1 => ?_⟩
  match ds, e2, r1 with
  | [x, y], e2, r1 =>
    cases e2
    obtain ⟨v, w, rfl, ra, rb⟩ := r1.two
    refine ⟨v, w, rfl, ?_⟩
    have R1 := R.grow g1
    have R2 := R1.set i ra
    refine p _ _ _ g1.gs (R2.set j rb) fun a ha => .inl ?_
    exact ownA_set2 R1.len (ownA_set2 (by simp [R1.len]) ha)
theorem ss_aug {i : Nat} {s : Stmt} {c : C} (hs : PS X s (tAug i (tE X.K Φ c) (ipI fun i j => i + j))) : PS X s (tS X.K Φ (.aug i c)) := ps_w hs fun E σ H ⟨S, ρ, o, R, e, p⟩ => by
  simp only [exec] at e
  obtain ⟨a, e1, e2⟩ := Option.bind_eq_some_iff.mp e
  obtain ⟨r, e3, e4⟩ := Option.bind_eq_some_iff.mp e2
  obtain ⟨b, e5, e6⟩ := Option.map_eq_some_iff.mp e4
  subst e6
  unfold intAt at e1
  split at e1
  · rename_i d o' e7
    obtain ⟨v, h1, h2⟩ := R.lookV e7
    rw [asI_some e1] at h2
    rw [h2.int] at h1
    refine ⟨_, h1, tE_of R e3 fun w H1 S1 g1 rs R1 => ?_⟩
    have rb := rs.look
    rw [asI_some e5] at rb
    exact ⟨a, b, rfl, rb.int, p _ _ _ g1.gs (R1.set i (.int (a + b))) fun x hx => .inl (ownA_set2 R1.len hx)⟩
  · cases e1
theorem ss_drop {F : List Nat} {e : Expr} {c : C} {pos : Pos} (hs : PS X (.Expr e pos) (tDrop (tE X.K Φ c))) : PS X (.Expr e pos) (tS X.K Φ (.drop F c)) := ps_w hs fun E σ H ⟨S, ρ, o, R, e, p⟩ => by
  simp only [exec] at e
  obtain ⟨r, e1, e2⟩ := Option.map_eq_some_iff.mp e
  subst e2
  obtain ⟨S0, s1, s2, R0⟩ := R.frz F
  refine ⟨S0, _, r, R0, e1, fun v H1 S1 g rs => ?_⟩
  have g0 : Gr H S H1 S := ⟨g.ex, fun _ h => h, fun _ h => .inl h, fun a s => by
    cases e : H a with
    | none => exact absurd e (R.live a s)
    | some o => rw [g.ex a o e]; simp⟩
  exact p _ _ _ g0.gs (R.grow g0) fun a h => .inl h
theorem ret_of {K : PySem.W.Frag} {F : List Nat} {c : C} {te : TE} {E : Ends} {σ : L2.St} {H : Hp} (w : ∀ Q, tE K Φ c σ H Q → te σ H Q) (h : tS K Φ (.ret F c) E σ H) : tRet te E σ H := by
  obtain ⟨S, ρ, o, R, e, p⟩ := h
  simp only [exec] at e
  obtain ⟨r, e1, e2⟩ := Option.bind_eq_some_iff.mp e
  obtain ⟨q, e3, e4⟩ := Option.map_eq_some_iff.mp e2
  subst e4
  refine w _ (tE_aft R e1 fun v H1 S1 g R1 rs ex => p v H1 S1 g R1.live ?_)
  obtain ⟨d, os⟩ := r
  cases os with
  | z => cases e3; exact rs
  | f =>
    cases e3
    obtain ⟨a, rfl, h0, ns, ct⟩ := rs
    exact ⟨a, rfl, .inr h0, ns, ct⟩
  | b => cases e3
theorem ss_ret {F : List Nat} {e : Expr} {c : C} {pos : Pos} (he : PE X e (tE X.K Φ c)) : PS X (.Return (some e) pos) (tS X.K Φ (.ret F c)) := ps_w (ps_ret he) fun E σ H h => ret_of (fun _ q => q) h
theorem ss_retLc {F : List Nat} {e : Expr} {t : Tg} {k : Ik} {ci cc ce : C} {pos : Pos} (hn : (tgSlots t).Nodup) (he : PE X e (tLc (tI X.K Φ k ci) (tG X.K t) (tT X.K Φ cc) (tE X.K Φ ce) (tgSlots t))) : PS X (.Return (some e) pos) (tS X.K Φ (.ret F (.lc t k ci cc ce))) :=
  ps_w (ps_ret he) fun E σ H h => ret_of (fun Q ⟨S, ρ, r, R, e, q⟩ => tLc_of hn R e q) h
theorem ss_retv {i : Nat} {x : Str} {pos pos' : Pos} (he : PE X (.Name x pos') (tVar i)) : PS X (.Return (some (.Name x pos')) pos) (tS X.K Φ (.retv i)) := ps_w (ps_ret he) fun E σ H ⟨S, ρ, o, R, e, p⟩ => by
  simp only [exec] at e
  split at e
  · rename_i d w e0
    cases e
    obtain ⟨v, h1, h2⟩ := R.val i d w e0
    refine ⟨v, h1, p v H S Gs.refl R.live ?_⟩
    cases w with
    | false => simpa [Rv] using h2
    | true =>
      obtain ⟨a, rfl, ns, c⟩ := (show Own X.K H S v d by simpa using h2)
      exact ⟨a, rfl, .inl ⟨i, d, e0, h1⟩, ns, c⟩
  · cases e
theorem ss_retN {pos : Pos} : PS X (.Return none pos) (tS X.K Φ (.ret [] (.cst .none))) := ps_w ps_retN fun E σ H ⟨S, ρ, o, R, e, p⟩ => by
  cases e
  exact p .non H S Gs.refl R.live .non
theorem ss_if {F : List Nat} {t : Expr} {a b : List Stmt} {cc ca cb : C} {pos : Pos} (hc : PT X t (tT X.K Φ cc)) (ha : PSs X a (tS X.K Φ ca)) (hb : PSs X b (tS X.K Φ cb)) : PS X (.If t a b pos) (tS X.K Φ (.iff F cc ca cb)) :=
  ps_w (ps_if hc ha hb) fun E σ H ⟨S, ρ, o, R, e, p⟩ => by
    simp only [exec] at e
    obtain ⟨r, e1, e2⟩ := Option.bind_eq_some_iff.mp e
    obtain ⟨k, e3, e4⟩ := Option.bind_eq_some_iff.mp e2
    refine tT_aft R e1 e3 fun H1 g R1 => ?_
    cases k with
    | true =>
      rw [if_pos rfl]
      simp only [if_true] at e4
      exact ⟨S, ρ, o, R1, e4, p.after g.gs fun x h => .inl h⟩
    | false =>
      rw [if_neg Bool.false_ne_true]
      simp only [Bool.false_eq_true, if_false] at e4
      exact ⟨S, ρ, o, R1, e4, p.after g.gs fun x h => .inl h⟩
/-! ### loops -/
theorem forGo_drop {t : D → Rho → Option Rho} {b : Rho → Option Out} {xs : List D} {i : Nat} {d : D} {ρ : Rho} {o : Out} (h : forGo t b (xs.drop i) ρ = some o) (hd : xs[i]? = some d) :
    ∃ ρ1 o1, t d ρ = some ρ1 ∧ b ρ1 = some o1 ∧ (match o1 with
      | .next ρ' => forGo t b (xs.drop (i + 1)) ρ' = some o
      | .brk ρ' => o = .next ρ'
      | .ret d w => o = .ret d w) := by
  have hi : i < xs.length := (List.getElem?_eq_some_iff.mp hd).1
  have he : xs.drop i = d :: xs.drop (i + 1) := by
    rw [List.drop_eq_getElem_cons hi, (List.getElem?_eq_some_iff.mp hd).2]
  rw [he] at h
  simp only [forGo] at h
  obtain ⟨ρ1, e1, h⟩ := Option.bind_eq_some_iff.mp h
  obtain ⟨o1, e2, h⟩ := Option.bind_eq_some_iff.mp h
  refine ⟨ρ1, o1, e1, e2, ?_⟩
  cases o1 with
  | next ρ' => exact h
  | brk ρ' => cases h; rfl
  | ret d w => cases h; rfl
theorem ownA_setSt : ∀ (is : List Nat) (ds : List D) (vs : List V) (σ : L2.St) (ρ ρ' : Rho), setMany is ds ρ = some ρ' → vs.length = ds.length → ∀ b, ownA (setSt is vs σ) ρ' b → ownA σ ρ b
  | [], [], _, _, _, _, h, _, b, hb => by simp [setMany] at h; subst h; exact hb
  | [], _ :: _, _, _, _, _, h, _, _, _ => by simp [setMany] at h
  | _ :: _, [], _, _, _, _, h, _, _, _ => by simp [setMany] at h
  | i :: is, d :: ds, [], _, _, _, _, hv, _, _ => by simp at hv
  | i :: is, d :: ds, v :: vs, σ, ρ, ρ', h, hv, b, hb => by
    obtain ⟨j, d', f1, f2⟩ := ownA_setSt is ds vs (σ.set i (some v)) (ρ.set i (some (d, false))) ρ' (by simpa [setMany] using h) (by simpa using hv) b hb
    by_cases hj : i = j
    · subst hj
      have hi : i < ρ.length := by
        have := (List.getElem?_eq_some_iff.mp f1).1
        simpa using this
      rw [List.getElem?_set_self hi] at f1
      cases f1
    · rw [List.getElem?_set_ne hj] at f1 f2
      exact ⟨j, d', f1, f2⟩
/-- a target given a known value: what is owned -/
theorem tG_own {K : PySem.W.Frag} {t : Tg} {σ : L2.St} {H : Hp} {S : Ad} {ρ ρ' : Rho} {v : V} {d : D} {Q : L2.St → Hp → Prop} (R : Rep K σ H S ρ) (r : Rp K H S v d) (e : bindT t d ρ = some ρ')
    (q : ∀ σ', Rep K σ' H S ρ' → (∀ a, ownA σ' ρ' a → ownA σ ρ a) → Q σ' H) : tG K t v σ H Q := by
  cases t with
  | nm i =>
    cases e
    exact q _ (R.set i r) fun a h => ownA_set2 R.len h
  | tu is =>
    obtain ⟨ds, e1, e2⟩ := Option.bind_eq_some_iff.mp (show (asTL d).bind _ = some ρ' from e)
    obtain ⟨a, vs, rfl, hs, r2⟩ := Rb.seqX (.inr r) e1
    have hl := setMany_len e2
    exact ⟨a, vs, rfl, hs, by rw [r2.length, hl], q _ (Rep.setMany is R r2 e2) fun b hb => ownA_setSt is ds vs σ ρ ρ' e2 r2.length b hb⟩
/-- what a loop keeps, between two turns -/
def ForInv (K : PySem.W.Frag) (σ : L2.St) (ρ : Rho) (H : Hp) (S : Ad) (H1 : Hp) (S1 : Ad) (σ2 : L2.St) (H2 : Hp) (S2 : Ad) (ρ2 : Rho) : Prop :=
  Gs (ownA σ ρ) H S H2 S2 ∧ Kp H1 S1 H2 S2 ∧ (∀ a, H1 a ≠ none → H2 a ≠ none) ∧ Rep K σ2 H2 S2 ρ2 ∧ (∀ a, ownA σ2 ρ2 a → (ownA σ ρ a ∨ H a = none) ∧ (¬ S1 a ∧ ∀ o, H1 a = some o → Mut (some o)))
theorem Gs.back {H H2 : Hp} {S S2 : Ad} {O : Ad} (g : Gs O H S H2 S2) {x : Addr} (h : H2 x = none) : H x = none := by
  cases e : H x with
  | none => rfl
  | some o => exact absurd h (g.there x (by rw [e]; simp))
theorem ForInv.start {K : PySem.W.Frag} {σ : L2.St} {ρ ρ1 : Rho} {H H1 : Hp} {S S1 : Ad} (g : Gs (ownA σ ρ) H S H1 S1) (R : Rep K σ H1 S1 ρ1) (h : ∀ a, ownA σ ρ1 a → ownA σ ρ a) : ForInv K σ ρ H S H1 S1 σ H1 S1 ρ1 :=
  ⟨g, ⟨fun _ h => h, fun _ _ _ h => h, fun _ _ h _ => h⟩, fun _ h => h, R, fun a ha => ⟨.inl (h a ha), by
    obtain ⟨j, d, f1, f2⟩ := ha
    obtain ⟨v, h1, h2⟩ := R.val j d true f1
    rw [f2] at h1; cases h1
    obtain ⟨b, e, ns, c⟩ := (show Own K H1 S1 (.ref a) d by simpa using h2)
    cases e
    obtain ⟨ob, hob, hm⟩ := c.there
    exact ⟨ns, fun o ho => by rw [hob] at ho; cases ho; exact hm⟩⟩⟩
/-- the next item is taken -/
theorem ForInv.item {K : PySem.W.Frag} {σ σ2 σ4 : L2.St} {ρ ρ2 ρ3 : Rho} {H H1 H2 H3 : Hp} {S S1 S2 : Ad} (l : ForInv K σ ρ H S H1 S1 σ2 H2 S2 ρ2) (g3 : Gr H2 S2 H3 S2) (R : Rep K σ4 H3 S2 ρ3) (h : ∀ a, ownA σ4 ρ3 a → ownA σ2 ρ2 a) : ForInv K σ ρ H S H1 S1 σ4 H3 S2 ρ3 := by
  obtain ⟨g, k, th, R2, ow⟩ := l
  exact ⟨g.trans (O1 := fun _ => False) (fun x h => h.elim) g3.gs, ⟨k.sub, fun a o s h => g3.ex _ _ (k.obj _ _ s h), fun a o h nm => g3.ex _ _ (k.nmu _ _ h nm)⟩,
    fun a h h0 => th a h (g3.fresh h0), R, fun a ha => ow a (h a ha)⟩
/-- behind the body -/
theorem ForInv.turn {K : PySem.W.Frag} {σ σ4 σ5 : L2.St} {ρ ρ3 ρ5 : Rho} {H H1 H3 H5 : Hp} {S S1 S2 S5 : Ad} (l : ForInv K σ ρ H S H1 S1 σ4 H3 S2 ρ3) (live : ∀ a, S1 a → H1 a ≠ none) (g5 : Gs (ownA σ4 ρ3) H3 S2 H5 S5) (R : Rep K σ5 H5 S5 ρ5) (h : ∀ a, ownA σ5 ρ5 a → ownA σ4 ρ3 a ∨ H3 a = none) : ForInv K σ ρ H S H1 S1 σ5 H5 S5 ρ5 := by
  obtain ⟨g, k, th, R2, ow⟩ := l
  refine ⟨g.trans (fun x h => (ow x h).1) g5, ⟨fun a s => g5.sub _ (k.sub _ s), fun a o s h => g5.obj _ _ (k.obj _ _ s h) fun q => (ow a q).2.1 s, fun a o h nm => g5.obj _ _ (k.nmu _ _ h nm) fun q => nm ((ow a q).2.2 _ h)⟩,
    fun a h => g5.there a (th a h), R, fun a ha => ?_⟩
  rcases h a ha with h | h
  · exact ow a h
  · have h1 : H1 a = none := by
      cases e : H1 a with
      | none => rfl
      | some o => exact absurd h (th a (by rw [e]; simp))
    exact ⟨.inr (g.back h), fun s => live a s h1, fun o ho => by rw [h1] at ho; cases ho⟩
/-- the body's ends, from the loop's -/
theorem ForInv.post {K : PySem.W.Frag} {E : Ends} {σ σ4 : L2.St} {ρ ρ3 : Rho} {H H1 H3 : Hp} {S S1 S2 : Ad} {o o1 : Out} {N C : L2.St → Hp → Prop} {nx : Rho → Prop} (l : ForInv K σ ρ H S H1 S1 σ4 H3 S2 ρ3) (live : ∀ a, S1 a → H1 a ≠ none) (p : Post K E (ownA σ ρ) H S o)
    (h : match o1 with
      | .next ρ' => nx ρ'
      | .brk ρ' => o = .next ρ'
      | .ret d w => o = .ret d w)
    (hN : ∀ ρ' σ' H' S', nx ρ' → ForInv K σ ρ H S H1 S1 σ' H' S' ρ' → N σ' H') : Post K { E with nx := N, ct := C, bk := E.nx } (ownA σ4 ρ3) H3 S2 o1 := by
  have ow := l.2.2.2.2
  cases o1 with
  | next ρ' => exact fun σ' H' S' g5 R' ho => hN ρ' σ' H' S' h (l.turn live g5 R' ho)
  | brk ρ' =>
    subst h
    exact fun σ' H' S' g5 R' ho => p σ' H' S' (l.1.trans (fun x h => (ow x h).1) g5) R' fun a ha => (ho a ha).elim (fun q => (ow a q).1) fun q => .inr (l.1.back q)
  | ret d w =>
    subst h
    refine fun v H' S' g5 lv rv => p v H' S' (l.1.trans (fun x h => (ow x h).1) g5) lv ?_
    cases w with
    | false => exact rv
    | true =>
      obtain ⟨a, e, h, r⟩ := rv
      exact ⟨a, e, h.elim (fun q => (ow a q).1) fun q => .inr (l.1.back q), r⟩
theorem ss_for {F : List Nat} {tg iter : Expr} {body : List Stmt} {t : Tg} {k : Ik} {ci cb : C} {pos : Pos} (hs : PS X (.For tg iter body [] pos) (tFor (tI X.K Φ k ci) (tG X.K t) (tS X.K Φ cb))) : PS X (.For tg iter body [] pos) (tS X.K Φ (.for_ t k F ci cb)) :=
  ps_w hs fun E σ H ⟨S, ρ, o, R, e, p⟩ => by
    simp only [exec] at e
    obtain ⟨ds, e1, e2⟩ := Option.bind_eq_some_iff.mp e
    obtain ⟨xs, e3, e4⟩ := Option.bind_eq_some_iff.mp e2
    obtain ⟨S0, s1, s2, R0⟩ := R.frz F
    have g0 : Gs (ownA σ ρ) H S H S0 := ⟨fun _ _ h _ => h, fun _ h => h, s1, fun a s => (s2 a s).elim .inl fun h => .inr (.inl h)⟩
    refine ⟨S0, _, ds, xs, R0, e1, e3, fun J H1 S1 g1 w => ?_⟩
    have g01 : Gs (ownA σ ρ) H S H1 S1 := g0.trans (O1 := fun _ => False) (fun x h => h.elim) g1.gs
    refine for_it w (fun i σ2 H2 => ∃ S2 ρ2, ForInv X.K σ ρ H S H1 S1 σ2 H2 S2 ρ2 ∧ forGo (bindT t) (fun ρ => exec Φ cb ρ) (xs.drop i) ρ2 = some o) ?_ ?_ ?_ ?_
    · exact ⟨S1, _, ForInv.start g01 (R0.grow g1) fun a h => ownA_frz h, by simpa using e4⟩
    · rintro i σ2 H2 _ ⟨S2, ρ2, l, ef⟩
      exact ⟨S2, l.2.1, l.2.2.2.1.live⟩
    · rintro i x σ2 H2 H3 hi ⟨S2, ρ2, l, ef⟩ y
      obtain ⟨d, h1, g3, r3⟩ := y S2 l.2.1 l.2.2.2.1.live
      obtain ⟨ρ3, o1, b1, b2, b3⟩ := forGo_drop ef h1
      refine tG_own (l.2.2.2.1.grow g3) r3 b1 fun σ4 R4 ow4 => ?_
      exact ⟨S2, ρ3, o1, R4, b2, (l.item g3 R4 ow4).post g1.live p (nx := fun ρ' => forGo (bindT t) (fun ρ => exec Φ cb ρ) (xs.drop (i + 1)) ρ' = some o) b3 fun ρ' σ' H' S' hn l' => ⟨S', ρ', l', hn⟩⟩
    · rintro σ2 H2 ⟨S2, ρ2, l, ef⟩
      rw [List.drop_length] at ef
      cases ef
      exact p σ2 H2 S2 l.1 l.2.2.2.1 fun a h => (l.2.2.2.2 a h).1
/-! ### a loop that looks alone: its body is tests that return -/
def PostK (K : PySem.W.Frag) (E : Ends) (σ : L2.St) (ρ : Rho) (H : Hp) (S : Ad) : Out → Prop
  | .next _ => ∀ H' S', Gr H S H' S' → E.nx σ H'
  | .brk _ => False
  | .ret d w => Post K E (ownA σ ρ) H S (.ret d w)
def tK (K : PySem.W.Frag) (Φ : Ph) (c : C) : TS := fun E σ H => ∃ S ρ o, Rep K σ H S ρ ∧ exec Φ c ρ = some o ∧ PostK K E σ ρ H S o
theorem PostK.after {K : PySem.W.Frag} {E : Ends} {σ : L2.St} {ρ : Rho} {H H1 : Hp} {S S1 : Ad} {o : Out} (p : PostK K E σ ρ H S o) (g : Gr H S H1 S1) : PostK K E σ ρ H1 S1 o := by
  cases o with
  | next ρ' => exact fun H' S' g' => p H' S' (g.trans g')
  | brk ρ' => exact p
  | ret d w => exact (show Post K E (ownA σ ρ) H1 S1 (.ret d w) from Post.after (show Post K E (ownA σ ρ) H S (.ret d w) from p) g.gs fun x h => .inl h)
theorem sk_nil : PSs X [] (tK X.K Φ .nil) := pss_w pss_nil fun E σ H ⟨S, ρ, o, R, e, p⟩ => by
  cases e
  exact p H S (Gr.refl R.live)
/-- if t: return .. -/
theorem sk_if {t : Expr} {a r : List Stmt} {cc ca cr : C} {F : List Nat} {pos : Pos} (hc : PT X t (tT X.K Φ cc)) (ha : PSs X a (tS X.K Φ (.cons (.ret F ca) .nil))) (hr : PSs X r (tK X.K Φ cr)) : PSs X (.If t a [] pos :: r) (tK X.K Φ (.cons (.iff [] cc (.cons (.ret F ca) .nil) .nil) cr)) :=
  pss_w (pss_cons (ps_if hc ha pss_nil) hr) fun E σ H ⟨S, ρ, o, R, e, p⟩ => by
    simp only [exec, thenO] at e
    obtain ⟨o1, e0, e9⟩ := Option.bind_eq_some_iff.mp e
    obtain ⟨q, e1, e2⟩ := Option.bind_eq_some_iff.mp e0
    obtain ⟨k, e3, e4⟩ := Option.bind_eq_some_iff.mp e2
    refine ⟨S, ρ, q, k, R, e1, e3, fun H1 S1 g => ?_⟩
    cases k with
    | true =>
      rw [if_pos rfl]
      simp only [if_true] at e4
      have e5 : exec Φ (.cons (.ret F ca) .nil) ρ = some o1 := by simp only [exec, thenO]; exact e4
      obtain ⟨o2, e6, e7⟩ := Option.bind_eq_some_iff.mp e4
      obtain ⟨q2, e8, e10⟩ := Option.bind_eq_some_iff.mp e6
      obtain ⟨q3, e11, e12⟩ := Option.map_eq_some_iff.mp e10
      subst e12
      cases e7
      cases e9
      exact ⟨S1, ρ, _, R.grow g, e5, Post.after (show Post X.K E (ownA σ ρ) H S (.ret _ _) from p) g.gs fun x h => .inl h⟩
    | false =>
      rw [if_neg Bool.false_ne_true]
      simp only [Bool.false_eq_true, if_false] at e4
      cases e4
      exact ⟨S1, ρ, o, R.grow g, e9, PostK.after p g⟩
theorem ss_while {c : Expr} {body : List Stmt} {cc cb : C} {pos : Pos} (hp : PassesOwn (model X.prog X.w) X.A X.env X.xe) (hc : PT X c (tT X.K Φ cc)) (hb : PSs X body (tS X.K Φ cb)) : PS X (.While c body [] pos) (tS X.K Φ (.whl cc cb)) :=
  ps_w (ps_while hp hc hb) fun E σ H ⟨S, ρ, o, R, e, p⟩ => by
    obtain ⟨m0, e0⟩ := wh_iff.mp (show wh _ _ ρ = some o from e)
    refine ⟨fun m σ2 H2 => ∃ S2 ρ2, ForInv X.K σ ρ H S H S σ2 H2 S2 ρ2 ∧ whN (fun ρ => (ev Φ cc ρ).bind fun r => asB r.1) (fun ρ => exec Φ cb ρ) m ρ2 = some o, ⟨m0, S, ρ, ForInv.start Gs.refl R fun _ h => h, e0⟩, ?_⟩
    rintro m σ2 H2 ⟨S2, ρ2, l, ef⟩
    cases m with
    | zero => simp [whN] at ef
    | succ n =>
      unfold whN at ef
      obtain ⟨k, e1, e2⟩ := Option.bind_eq_some_iff.mp ef
      obtain ⟨r, e3, e4⟩ := Option.bind_eq_some_iff.mp e1
      refine tT_of l.2.2.2.1 e3 e4 fun H3 S3 g3 R3 => ?_
      have l3 : ForInv X.K σ ρ H S H S σ2 H3 S3 ρ2 := l.turn R.live g3.gs R3 fun a h => .inl h
      cases k with
      | false =>
        simp only [Bool.false_eq_true, if_false] at e2 ⊢
        cases e2
        exact p σ2 H3 S3 l3.1 R3 fun a h => (l3.2.2.2.2 a h).1
      | true =>
        simp only [if_true] at e2 ⊢
        obtain ⟨o1, e5, e6⟩ := Option.bind_eq_some_iff.mp e2
        refine ⟨fun σ' H' => ∃ S2 ρ2, ForInv X.K σ ρ H S H S σ' H' S2 ρ2 ∧ whN (fun ρ => (ev Φ cc ρ).bind fun r => asB r.1) (fun ρ => exec Φ cb ρ) n ρ2 = some o, fun σ' H' h => ⟨n, Nat.lt_succ_self _, h⟩, S3, ρ2, o1, R3, e5, ?_⟩
        refine l3.post R.live p (nx := fun ρ' => whN (fun ρ => (ev Φ cc ρ).bind fun r => asB r.1) (fun ρ => exec Φ cb ρ) n ρ' = some o) ?_ fun ρ' σ' H' S' hn l' => ⟨S', ρ', l', hn⟩
        cases o1 with
        | next ρ' => exact e6
        | brk ρ' => cases e6; rfl
        | ret d w => cases e6; rfl
/-! ### lists that are written -/
theorem ownL_some {ρ : Rho} {i : Nat} {xs : List D} (h : ownL ρ i = some xs) : ρ[i]? = some (some (.list xs, true)) := by
  unfold ownL at h
  split at h
  · rename_i ys e
    cases h
    exact e
  · cases h
/-- the owner's object -/
theorem Rep.ownAt {K : PySem.W.Frag} {σ : L2.St} {H : Hp} {S : Ad} {ρ : Rho} {i : Nat} {ds : List D} (R : Rep K σ H S ρ) (e : ρ[i]? = some (some (.list ds, true))) : ∃ a xs, σ[i]? = some (some (.ref a)) ∧ ¬ S a ∧ H a = some (.lst xs) ∧ RpAll K H S xs ds := by
  obtain ⟨v, h1, h2⟩ := R.val i _ true e
  obtain ⟨a, rfl, ns, c⟩ := (show Own K H S v (.list ds) by simpa using h2)
  cases c with
  | lst eH r => exact ⟨a, _, h1, ns, eH, r⟩
theorem tE_aft2 {K : PySem.W.Frag} {σ : L2.St} {H : Hp} {S : Ad} {ρ : Rho} {F : List Nat} {c : C} {r : D × Os} {d : D} {Q : VK} (R : Rep K σ H S ρ) (e : ev Φ c (Pv.frz F ρ) = some r) (et : take r = some d)
    (q : ∀ v H' S', Gs (ownA σ ρ) H S H' S' → Rep K σ H' S' (aft F ρ d) → Rp K H' S' v d → (∀ a o, H a = some o → H' a = some o) → Q v H') : tE K Φ c σ H Q := by
  have hd : d = r.1 := by
    unfold take at et
    split at et
    · cases et
    · cases et; rfl
  subst hd
  refine tE_aft R e fun v H1 S1 g R1 rs ex => ?_
  obtain ⟨dd, os⟩ := r
  cases os with
  | z => exact q v H1 S1 g R1 rs ex
  | f =>
    obtain ⟨a, rfl, h0, ns, c⟩ := rs
    have ns1 : ∀ {j : Nat} {d' : D}, (aft F ρ dd)[j]? = some (some (d', true)) → σ[j]? ≠ some (some (.ref a)) := fun {j d'} f1 f2 => by
      obtain ⟨k, d2, f3, f4⟩ := ownA_aft (σ := σ) (ρ := ρ) (F := F) (d := dd) (a := a) ⟨j, d', f1, f2⟩
      obtain ⟨v, f5, f6⟩ := R.val k d2 true f3
      rw [f4] at f5; cases f5
      obtain ⟨b, e, _, c2⟩ := (show Own K H S (.ref a) d2 by simpa using f6)
      cases e
      obtain ⟨ob, hob, _⟩ := c2.there
      rw [hob] at h0; cases h0
    have kk : Kp H1 S1 H1 (fun x => S1 x ∨ x = a) := ⟨fun _ h => .inl h, fun _ _ _ h => h, fun _ _ h _ => h⟩
    refine q _ H1 (fun x => S1 x ∨ x = a) ⟨g.obj, g.there, fun x s => .inl (g.sub x s), fun x s => ?_⟩ ⟨R1.len, fun i d' o f1 => ?_, R1.ap, fun x s => ?_⟩ (.cont (.inr rfl) (c.keep kk fun _ h => h)) ex
    · rcases s with s | rfl
      · exact g.new x s
      · exact .inr (.inr h0)
    · obtain ⟨v, h1, h2⟩ := R1.val i d' o f1
      refine ⟨v, h1, ?_⟩
      cases o with
      | false => exact Rp.keep kk d' v (by simpa using h2)
      | true =>
        obtain ⟨b, rfl, nb, c⟩ := (show Own K H1 S1 v d' by simpa using h2)
        refine ⟨b, rfl, fun s => ?_, c.keep kk fun _ h => h⟩
        rcases s with s | rfl
        · exact nb s
        · exact ns1 f1 h1
    · rcases s with s | rfl
      · exact R1.live x s
      · obtain ⟨o, ho, _⟩ := c.there
        rw [ho]; simp
  | b => cases et
/-- one slot's list is written: the end -/
theorem Post.write {K : PySem.W.Frag} {E : Ends} {σ : L2.St} {ρ ρ1 : Rho} {H H1 : Hp} {S S1 : Ad} {i : Nat} {a : Addr} {xs xs' : List V} {ds ds' : List D} (p : Post K E (ownA σ ρ) H S (setL ρ1 i ds')) (g : Gs (ownA σ ρ) H S H1 S1) (R1 : Rep K σ H1 S1 ρ1) (hO : ∀ a, ownA σ ρ1 a → ownA σ ρ a)
    (e1 : ρ1[i]? = some (some (.list ds, true))) (e2 : σ[i]? = some (some (.ref a))) (eH : H1 a = some (.lst xs)) (ns : ¬ S1 a) (r : RpAll K H1 S1 xs' ds') : E.nx σ (upd H1 a (.lst xs')) := by
  have oa : ownA σ ρ1 a := ⟨i, _, e1, e2⟩
  refine p σ _ S1 (g.trans (O1 := ownA σ ρ1) (fun x h => .inl (hO x h)) ⟨fun x o h n => ?_, fun x h => ?_, fun _ h => h, fun _ h => .inl h⟩) (R1.mut e1 e2 eH ns r) fun x hx => .inl (hO x (ownA_set e1 hx))
  · rw [upd_ne (by rintro rfl; exact n oa)]; exact h
  · by_cases hx : x = a
    · subst hx; rw [upd_same]; simp
    · rw [upd_ne hx]; exact h
theorem Post.writeG {K : PySem.W.Frag} {E : Ends} {σ : L2.St} {ρ ρ1 : Rho} {H H1 : Hp} {S S1 : Ad} {i : Nat} {a : Addr} {o0 o1 : HO} {d0 d1 : D} (p : Post K E (ownA σ ρ) H S (.next (ρ1.set i (some (d1, true))))) (g : Gs (ownA σ ρ) H S H1 S1) (R1 : Rep K σ H1 S1 ρ1) (hO : ∀ a, ownA σ ρ1 a → ownA σ ρ a)
    (e1 : ρ1[i]? = some (some (d0, true))) (e2 : σ[i]? = some (some (.ref a))) (eH : H1 a = some o0) (mu : Mut (some o0)) (ns : ¬ S1 a) (r : Kp H1 S1 (upd H1 a o1) S1 → Ct K (upd H1 a o1) S1 a d1) : E.nx σ (upd H1 a o1) := by
  have oa : ownA σ ρ1 a := ⟨i, _, e1, e2⟩
  refine p σ _ S1 (g.trans (O1 := ownA σ ρ1) (fun x h => .inl (hO x h)) ⟨fun x o h n => ?_, fun x h => ?_, fun _ h => h, fun _ h => .inl h⟩) (R1.mutG e1 e2 eH mu ns r) fun x hx => .inl (hO x (ownA_set e1 hx))
  · rw [upd_ne (by rintro rfl; exact n oa)]; exact h
  · by_cases hx : x = a
    · subst hx; rw [upd_same]; simp
    · rw [upd_ne hx]; exact h
variable {x : Str} {e k : Expr} {cc ck : C} {i : Nat} {F : List Nat} {pos p1 p2 : Pos}
theorem ss_clr {spos : Pos} (hs : PS X (.Expr (.Call (.Attribute (.Name x p1) "clear" p2) [] [] pos) spos) (tDrop (tBM0 X.K "list" rClear (tVar i)))) : PS X (.Expr (.Call (.Attribute (.Name x p1) "clear" p2) [] [] pos) spos) (tS X.K Φ (.clr i)) :=
  ps_w hs fun E σ H ⟨S, ρ, o, R, e, p⟩ => by
    obtain ⟨ds, e1, e2⟩ := Option.map_eq_some_iff.mp (show (ownL ρ i).map _ = some o from e)
    subst e2
    obtain ⟨a, xs, e3, ns, eH, rx⟩ := R.ownAt (ownL_some e1)
    exact ⟨_, e3, .inl ⟨rfl, xs, SqL.of eH⟩, a, xs, rfl, rfl, eH, p.write Gs.refl R (fun _ h => h) (ownL_some e1) e3 eH ns .nil⟩
theorem ss_revl {spos : Pos} (hs : PS X (.Expr (.Call (.Attribute (.Name x p1) "reverse" p2) [] [] pos) spos) (tDrop (tBM0 X.K "list" rReverse (tVar i)))) : PS X (.Expr (.Call (.Attribute (.Name x p1) "reverse" p2) [] [] pos) spos) (tS X.K Φ (.revl i)) :=
  ps_w hs fun E σ H ⟨S, ρ, o, R, e, p⟩ => by
    obtain ⟨ds, e1, e2⟩ := Option.map_eq_some_iff.mp (show (ownL ρ i).map _ = some o from e)
    subst e2
    obtain ⟨a, xs, e3, ns, eH, rx⟩ := R.ownAt (ownL_some e1)
    exact ⟨_, e3, .inl ⟨rfl, xs, SqL.of eH⟩, a, xs, rfl, rfl, eH, p.write Gs.refl R (fun _ h => h) (ownL_some e1) e3 eH ns rx.reverse⟩
theorem ss_pop {spos : Pos} (hs : PS X (.Expr (.Call (.Attribute (.Name x p1) "pop" p2) [] [] pos) spos) (tDrop (tBM0 X.K "list" rPop (tVar i)))) : PS X (.Expr (.Call (.Attribute (.Name x p1) "pop" p2) [] [] pos) spos) (tS X.K Φ (.pop i)) :=
  ps_w hs fun E σ H ⟨S, ρ, o, R, e, p⟩ => by
    obtain ⟨ds, e1, e2⟩ := Option.bind_eq_some_iff.mp (show (ownL ρ i).bind _ = some o from e)
    split at e2
    · cases e2
    · rename_i hne
      cases e2
      obtain ⟨a, xs, e3, ns, eH, rx⟩ := R.ownAt (ownL_some e1)
      have hl := rx.length
      have hpos : 0 < xs.length := by
        cases ds with
        | nil => simp at hne
        | cons => rw [hl]; simp
      obtain ⟨y, hy⟩ : ∃ y, xs[xs.length - 1]? = some y := ⟨xs[xs.length - 1], List.getElem?_eq_getElem (by omega)⟩
      exact ⟨_, e3, .inl ⟨rfl, xs, SqL.of eH⟩, a, xs, y, rfl, rfl, eH, hy, p.write Gs.refl R (fun _ h => h) (ownL_some e1) e3 eH ns rx.dropLast⟩
theorem aft_own {σ : L2.St} {ρ : Rho} {d : D} {i : Nat} {ds : List D} (h : (aft F ρ d)[i]? = some (some (.list ds, true))) : ρ[i]? = some (some (.list ds, true)) := by
  unfold aft at h
  split at h
  · exact h
  · exact (frz_own h).1
theorem ss_app {spos : Pos} (hs : PS X (.Expr (.Call (.Attribute (.Name x p1) "append" p2) [e] [] pos) spos) (tDrop (tBM X.K "list" rAppend (tVar i) (tCons (tE X.K Φ cc) tNil)))) : PS X (.Expr (.Call (.Attribute (.Name x p1) "append" p2) [e] [] pos) spos) (tS X.K Φ (.app i F cc)) :=
  ps_w hs fun E σ H ⟨S, ρ, o, R, e, p⟩ => by
    obtain ⟨d, e1, e2⟩ := Option.bind_eq_some_iff.mp (show ((ev Φ cc (frz F ρ)).bind take).bind _ = some o from e)
    obtain ⟨r, e1, e3⟩ := Option.bind_eq_some_iff.mp e1
    obtain ⟨ds, e4, e5⟩ := Option.bind_eq_some_iff.mp e2
    split at e5
    · rename_i hz
      cases e5
      obtain ⟨a0, xs0, q1, _, q2, _⟩ := R.ownAt (aft_own (σ := σ) (ownL_some e4))
      refine ⟨_, q1, .inl ⟨rfl, xs0, SqL.of q2⟩, tE_aft2 R e1 e3 fun v H1 S1 g R1 rv ex => ?_⟩
      obtain ⟨a, xs, e6, ns, eH, rx⟩ := R1.ownAt (ownL_some e4)
      rw [q1] at e6; cases e6
      have hl := rx.length
      exact ⟨a0, xs, v, rfl, rfl, eH, by have := le_line (Nat.le_of_lt hz); have h2 : ds.length < lim := hz; have h3 : lim ≤ sizeLine := le_line (Nat.le_refl _); omega, p.write g R1 (fun _ h => ownA_aft h) (ownL_some e4) q1 eH ns (rx.append (.cons rv .nil))⟩
    · cases e5
/-- o[k] = v: a list's item, a dict's value -/
def rSetA : V → V → V → Hp → (Hp → Prop) → Prop := fun o i v H Q => rSetL o i v H Q ∨ ∃ a H4, o = .ref a ∧ DPut H a i v H4 ∧ Q H4
theorem set_any (hu : X.A.units + 1 < cLine) : PSet X rSetA := by
  intro pins s σ H o i v ov iv u Q I ro ri rv h
  rcases h with h | ⟨a, H4, rfl, g, q⟩
  · exact set_list pins s σ H o i v ov iv u Q I ro ri rv h
  · obtain rfl : ov = .ref a := ro
    exact d_setItem hu I g ri rv fun s' I' => ⟨H4, I', q⟩
theorem ss_seti {spos : Pos} (hs : PS X (.Assign [.Subscript (.Name x p1) k p2] e spos) (tAsg (tE X.K Φ cc) (gSub (tVar i) (tE X.K Φ ck) rSetA))) : PS X (.Assign [.Subscript (.Name x p1) k p2] e spos) (tS X.K Φ (.seti i F ck cc)) :=
  ps_w hs fun E σ H ⟨S, ρ, o, R, e, p⟩ => by
    obtain ⟨d, e1, e2⟩ := Option.bind_eq_some_iff.mp (show ((ev Φ cc (frz F ρ)).bind take).bind _ = some o from e)
    obtain ⟨r, e1, e3⟩ := Option.bind_eq_some_iff.mp e1
    obtain ⟨rk, e4, e5⟩ := Option.bind_eq_some_iff.mp e2
    have e5 : putO (aft F ρ d) i rk.1 d = some o := e5
    refine tE_aft2 R e1 e3 fun v H1 S1 g R1 rv ex => ?_
    unfold putO at e5
    split at e5
    · rename_i ds hi
      obtain ⟨j, ej, e7⟩ := Option.bind_eq_some_iff.mp e5
      obtain ⟨n, e8, e9⟩ := Option.map_eq_some_iff.mp e7
      subst e9
      obtain ⟨a, xs, q1, _, _, _⟩ := R1.ownAt hi
      refine ⟨_, q1, tE_of R1 e4 fun w H2 S2 g2 rs R2 => ?_⟩
      obtain ⟨a', xs', q1', ns, eH, rx⟩ := R2.ownAt hi
      rw [q1] at q1'; cases q1'
      have rb := rs.look
      rw [asI_some ej] at rb
      exact .inl ⟨a, xs', j, n, rfl, rb.int, eH, by rw [rx.length]; exact e8, p.write (g.trans (O1 := fun _ => False) (fun x h => h.elim) g2.gs) R2 (fun _ h => ownA_aft h) hi q1 eH ns (rx.set n (rv.keep g2.kp _ _))⟩
    · rename_i ps hi
      cases hDI : asDI ps with
      | some l =>
        rw [hDI] at e5
        obtain ⟨j, ek, e8⟩ := Option.bind_eq_some_iff.mp (show ((asI rk.1).bind fun j => if l.length < lim then some (.next ((aft F ρ d).set i (some (.dict (dkI (iput l j d)), true)))) else none) = some o from e5)
        split at e8
        · rename_i hz
          cases e8
          have own : ∀ {H' : Hp} {S' : Ad}, Rep X.K σ H' S' (aft F ρ d) → ∃ a kvs, σ[i]? = some (some (.ref a)) ∧ ¬ S' a ∧ H' a = some (.dK kvs) ∧ RpI X.K H' S' kvs (dkI l) := fun {H' S'} R' => by
            obtain ⟨v0, h1, h2⟩ := R'.val i _ true hi
            obtain ⟨a, rfl, ns, c⟩ := (show Own X.K H' S' v0 (.dict ps) by simpa using h2)
            cases c with
            | dct eH r => rw [r.noI] at hDI; cases hDI
            | dci eH r => exact ⟨a, _, h1, ns, eH, by rw [← asDI_inv hDI]; exact r⟩
          obtain ⟨a, _, q1, _, _, _⟩ := own R1
          refine ⟨_, q1, tE_of R1 e4 fun w H2 S2 g2 rs R2 => ?_⟩
          obtain ⟨a', kvs, q1', ns, eH, rx⟩ := own R2
          rw [q1] at q1'; cases q1'
          have rb := rs.look
          rw [asI_some ek] at rb
          have hw := rb.int
          subst hw
          have hl : kvs.length < sizeLine := by
            rw [rx.len]
            have h3 : lim ≤ sizeLine := le_line (Nat.le_refl _)
            omega
          have hv := rv.keep g2.kp _ _
          exact .inr ⟨a, _, rfl, .inl ⟨kvs, Sum.inl j, eH, rfl, hl, rfl⟩, p.writeG (g.trans (O1 := fun _ => False) (fun x h => h.elim) g2.gs) R2 (fun _ h => ownA_aft h) hi q1 eH trivial ns fun kk => .dci upd_same ((rx.put hv).keep kk _ _)⟩
        · cases e8
      | none =>
      rw [hDI] at e5
      obtain ⟨l, el, e7⟩ := Option.bind_eq_some_iff.mp (show ((asKs ps).bind fun l => (keyO rk.1).bind fun ks => if l.length < lim then some (.next ((aft F ρ d).set i (some (.dict (dkL (dput l ks d)), true)))) else none) = some o from e5)
      obtain ⟨ks, ek, e8⟩ := Option.bind_eq_some_iff.mp e7
      split at e8
      · rename_i hz
        cases e8
        have own : ∀ {H' : Hp} {S' : Ad}, Rep X.K σ H' S' (aft F ρ d) → ∃ a kvs, σ[i]? = some (some (.ref a)) ∧ ¬ S' a ∧ H' a = some (.dT kvs) ∧ RpK X.K H' S' kvs ps := fun {H' S'} R' => by
          obtain ⟨v0, h1, h2⟩ := R'.val i _ true hi
          obtain ⟨a, rfl, ns, c⟩ := (show Own X.K H' S' v0 (.dict ps) by simpa using h2)
          cases c with
          | dct eH r => exact ⟨a, _, h1, ns, eH, r⟩
          | dci eH r => obtain ⟨_, z⟩ := r.isI; rw [hDI] at z; cases z
        obtain ⟨a, _, q1, _, _, _⟩ := own R1
        refine ⟨_, q1, tE_of R1 e4 fun w H2 S2 g2 rs R2 => ?_⟩
        obtain ⟨a', kvs, q1', ns, eH, rx⟩ := own R2
        rw [q1] at q1'; cases q1'
        obtain ⟨b, rfl, hb⟩ := rs.look.key ek
        have hl : kvs.length < sizeLine := by
          rw [(rx.parts el).1]
          have h3 : lim ≤ sizeLine := le_line (Nat.le_refl _)
          omega
        have hv := rv.keep g2.kp _ _
        exact .inr ⟨a, _, rfl, DPut.t eH hb hl, p.writeG (g.trans (O1 := fun _ => False) (fun x h => h.elim) g2.gs) R2 (fun _ h => ownA_aft h) hi q1 eH trivial ns fun kk => .dct upd_same ((rx.put el hv).keep kk _ _)⟩
      · cases e8
    · cases e5
theorem ss_forc {x y : Str} {body : List Stmt} {i j : Nat} {cb : C} {pos py px : Pos} (hij : i ≠ j) (hi : PE X (.Name x px) (tVar i)) (hg : PG X (.Name y py) (tG X.K (.nm j))) (hb : PSs X body (tK X.K Φ cb)) (hp : PassesOwn (model X.prog X.w) X.A X.env X.xe) (hc : X.calm = true)
    (nob : ∀ ρ o, exec Φ cb ρ = some o → (∀ ρ', o = .brk ρ' → False) ∧ ∀ ρ', o = .next ρ' → ρ' = ρ) : PS X (.For (.Name y py) (.Name x px) body [] pos) (tS X.K Φ (.forc j i cb)) :=
  ps_w (ps_for hp hc (pi_sq hi) hg hb (fun _ => rfl)) fun E σ H ⟨S, ρ, o, R, e, p⟩ => by
    simp only [exec] at e
    split at e
    · rename_i ds he
      obtain ⟨a, vs, q1, ns, eH, rx⟩ := R.ownAt he
      refine ⟨_, q1, a, vs, rfl, .inl ⟨SqL.of eH, ?_⟩⟩
      refine for_it (walk_list (xs := vs)) (fun k σ2 H2 => ∃ S2 ρ2, Gr H S H2 S2 ∧ Rep X.K σ2 H2 S2 ρ2 ∧ forGo (bindT (.nm j)) (fun ρ => exec Φ cb ρ) (ds.drop k) ρ2 = some o ∧ (∀ b, ownA σ2 ρ2 b → ownA σ ρ b)) ?_ ?_ ?_ ?_
      · exact ⟨S, ρ, Gr.refl R.live, R, by simpa using e, fun b h => h⟩
      · rintro k σ2 H2 _ ⟨S2, ρ2, g, R2, ef, ow⟩
        exact SqL.of (g.ex _ _ eH)
      · rintro k v σ2 H2 H3 hk ⟨S2, ρ2, g, R2, ef, ow⟩ y
        obtain ⟨rfl, hv⟩ := y
        obtain ⟨d, h1, r3⟩ := rx.getV hv
        obtain ⟨ρ3, o1, b1, b2, b3⟩ := forGo_drop ef h1
        cases b1
        have R3 := R2.set j (r3.keep g.kp _ _)
        refine ⟨S2, _, o1, R3, b2, ?_⟩
        have nb := nob _ _ b2
        cases o1 with
        | next ρ' =>
          obtain rfl := nb.2 _ rfl
          exact fun H' S' g' => ⟨S', _, g.trans g', R3.grow g', b3, fun b h => ow b (ownA_set2 R2.len h)⟩
        | brk ρ' => exact nb.1 _ rfl
        | ret d' w =>
          have b3 : o = .ret d' w := b3
          subst b3
          exact Post.after p g.gs fun x h => .inl (ow x (ownA_set2 R2.len h))
      · rintro σ2 H2 ⟨S2, ρ2, g, R2, ef, ow⟩
        rw [rx.length, List.drop_length] at ef
        cases ef
        exact p σ2 H2 S2 g.gs R2 fun a h => .inl (ow a h)
    · cases e
end Pv

set_option Elab.async false
set_option linter.all false
set_option maxRecDepth 100000
set_option maxHeartbeats 1000000
/-! Pv2d: list(reversed(x)), x a list. -/
namespace Pv
open PySem PySem.Spec L2 PyProof.Rows
section
variable {prog : Program} {w : World} {A : Around} {E : Value → Shared → Prop} {s : Shared}
/-- a new list takes all of a reverse iterator -/
theorem extend_rv {R : Result → Shared → Prop} {r l z : Addr} {vs : Array Value} {c0 : Nat} {res : Value} (hh : A.handled = none) (hr : s.heap.IsRevIter r l ((vs.size : Int) - 1)) (hl : s.heap.IsList l vs) (nlr : l ≠ r) (nzr : z ≠ r) (nzl : z ≠ l) (hn : vs.size ≤ sizeLine)
    (hz : s.heap.get? z = some { cls := .type "list", data := .seq #[] c0 })
    (hR : ∀ h' tk acc c', (∀ b o, b ≠ z → b ≠ r → s.heap.get? b = some o → h'.get? b = some o) → h'.get? z = some { cls := .type "list", dict := none, data := .seq acc c', slots := #[] } → ItemsOf (fun i v => vs[vs.size - 1 - i]? = some v) acc vs.size → R (.ok (.ret res)) { s with heap := h', toks := tk }) :
    wpAny (model prog w) A.in1 (Builtin.List.listExtendWith (.ref z) (.ref r) res) (fun f s2 => match f with | .done g => R (.ok g) s2 | .again c => c.quiet = true ∧ codeAny (model prog w) A c R s2) (fun e s2 => R (.error e) s2) s := by
  have W := (Walks.listRev (prog := prog) (w := w) (A := A.in1) hh r l nlr vs).toS
  have nf : z ∉ [r, l] := fun h => by
    rcases List.mem_cons.mp h with h | h
    · exact nzr h
    · exact nzl (List.mem_singleton.mp h)
  have ty : s.TypeIs (.ref r) "list_reverseiterator" := Heap.IsRevIter.typeIs (s := s) hr
  have ns : Builtin.List.listSameRef (.ref z) (.ref r) = false := by simp [Builtin.List.listSameRef, nzr]
  unfold Builtin.List.listExtendWith
  refine wpAny_bind (wpAny_typeOf ty ?_)
  rw [if_neg (by rw [ns]; decide)]
  refine wpAny_bind (wpAny_pyIter_revIter (s := s) hr (wpAny_bind (wpAny_holding ?_)))
  unfold Builtin.List.listLengthHint
  refine wpAny_bind (wpAny_specialOf ty RT.nolen_lri (wpAny_bind (wpAny_specialOf ty RT.hint_lri ?_)))
  generalize hq : ("list_reverseiterator.__length_hint__" : String) = q0
  wp_delta
  rw [show splitId q0 = some ("list_reverseiterator", "__length_hint__") from by subst hq; decide +kernel]
  subst hq
  refine wpAny_bind (wpAny_isInstance (b := true) ty (by rw [isSubtype_type]; kernel_rfl) (wpAny_pure ?_))
  rw [if_neg (by decide)]
  have z0 : ((vs.size : Nat) : Int) - 1 - ((0 : Nat) : Int) = (vs.size : Int) - 1 := by omega
  refine wpAny_pure ⟨plainId_quiet F.plain_extend_loop _, codeAny_extend_loopS W hn _ nf _ vs.size 0 _ _ _ rfl (Nat.zero_le _) ⟨Nat.zero_le _, by rw [z0]; exact hr, hl⟩ hz (ItemsOf.nil _) fun s2 acc c2 hm h2 hacc => ?_⟩
  rw [Moved.eq_with hm]
  refine hR s2.heap s2.toks acc c2 (fun b o hb hb2 e => hm.heap b o (fun h => ?_) e) h2 hacc
  rcases List.mem_cons.mp h with h | h
  · exact hb h
  · exact hb2 (List.mem_singleton.mp h)
theorem call_list_rv {r l : Addr} {vs : Array Value} {Q : Value → Shared → Prop} (hh : A.handled = none) (hr : s.heap.IsRevIter r l ((vs.size : Int) - 1)) (hl : s.heap.IsList l vs) (nlr : l ≠ r) (hn : vs.size ≤ sizeLine)
    (hQ : ∀ h' tk acc c', (∀ b o, b ≠ r → s.heap.get? b = some o → h'.get? b = some o) → h'.get? s.heap.objs.size = some { cls := .type "list", dict := none, data := .seq acc c', slots := #[] } → ItemsOf (fun i v => vs[vs.size - 1 - i]? = some v) acc vs.size → Q (.ref s.heap.objs.size) { s with heap := h', toks := tk }) :
    wpAny (model prog w) A (call (.type "list") [.ref r]) Q E s := by
  refine callType_codes (Q₁ := fun y s1 => y = .ref s.heap.objs.size ∧ s1 = { s with heap := s.heap.push { cls := .type "list", data := .seq #[] } }) F.called_list (F.typeCall_list_1 _) F.entry_list_init (code_list_new _ ⟨rfl, rfl⟩) fun y s1 h1 => ?_
  obtain ⟨rfl, rfl⟩ := h1
  obtain ⟨or, hor, _⟩ := id hr
  obtain ⟨ol, hol, _⟩ := id hl
  have nzr : s.heap.objs.size ≠ r := Nat.ne_of_gt (Heap.lt_size hor)
  have nzl : s.heap.objs.size ≠ l := Nat.ne_of_gt (Heap.lt_size hol)
  have hz : (s.heap.push { cls := .type "list", data := .seq #[] }).get? s.heap.objs.size = some { cls := .type "list", data := .seq #[] } := Heap.get?_push_size _ rfl
  refine ⟨⟨_, hz, rfl⟩, F.args_list_init_2 _ _, ?_⟩
  show wpAny _ _ (do let old ← Builtin.List.listItems (.ref s.heap.objs.size); Builtin.List.listUpdate (.ref s.heap.objs.size) (fun _ => #[]); letGo old.toList.reverse; Builtin.List.listExtendWith (.ref s.heap.objs.size) (.ref r) .none) _ _ _
  refine wpAny_bind ?_
  unfold Builtin.List.listItems
  refine wpAny_bind (wpAny_seqItems hz rfl (wpAny_pure ?_))
  show wpAny _ _ (updateSeq s.heap.objs.size (fun _ => #[]) >>= fun _ => letGo (#[] : Array Value).toList.reverse >>= fun _ => Builtin.List.listExtendWith (.ref s.heap.objs.size) (.ref r) .none) _ _ _
  refine wpAny_bind (wpAny_updateSeq hz rfl ?_)
  have hz2 := Heap.get?_update_self (Obj.mapSeq (fun _ => (#[] : Array Value))) hz rfl
  have oth : ∀ b o, b ≠ s.heap.objs.size → s.heap.get? b = some o → ((s.heap.push { cls := .type "list", data := .seq #[] }).update s.heap.objs.size (Obj.mapSeq (fun _ => (#[] : Array Value)))).get? b = some o :=
    fun b o hb e => (Heap.get?_update_other _ _ (Ne.symm hb)).trans (Heap.get?_push_of_some _ e)
  refine wpAny_bind (wpAny_letGo ?_)
  refine extend_rv (A := A.in1) hh (r := r) (l := l) (vs := vs) (hr.at fun o e => oth r o nzr.symm e) ?_ nlr nzr nzl hn hz2 fun h' tk acc c' hk h2 hacc => ?_
  · obtain ⟨o, e, r2⟩ := hl
    exact ⟨o, oth l o nzl.symm e, r2⟩
  · exact ⟨rfl, hQ h' tk acc c' (fun b o hb e => hk b o (Nat.ne_of_lt (Heap.lt_size e)) hb (oth b o (Nat.ne_of_lt (Heap.lt_size e)) e)) h2 hacc⟩
end
section
variable {X : Cx}
def rRv (K : PySem.W.Frag) : V → Hp → VK → Prop := fun v H Q => ∃ (a : Addr) (xs : List V), v = .ref a ∧ SqL K H a xs ∧ ∀ q, H q = none → Q (.ref q) (upd H q (.lst xs.reverse))
def tLstRv (K : PySem.W.Frag) (te : TE) : TE := fun σ H Q => te σ H fun v H1 => rRv K v H1 Q
theorem pe_lstRv {e : Expr} {te : TE} {p p2 pos pos2 : Pos} (hc : X.calm = true) (hg : Gl X "list") (hm : X.mg "list" = none) (hg2 : Gl X "reversed") (hm2 : X.mg "reversed" = none) (he : PE X e te) (hs : starEach [e] X.env = (false, eval e X.env) :: starEach [] X.env) :
    PE X (.Call (.Name "list" p) [.Call (.Name "reversed" p2) [e] [] pos2] [] pos) (tLstRv X.K te) := by
  refine ⟨fun pins s σ H Q I h => Call_ (ld_blt I hg hm boot_list (PyProof.Rows.callWith_type1 (args_cons (Call_ (ld_blt I hg2 hm2 PyProof.Rows.boot_reversed (PyProof.Rows.callWith_type1 (args_cons (thn (he.run pins s σ H _ I h) fun u s1 ⟨v, H1, I1, r1, q1⟩ => args_nil ?_) hs) hs rfl))) rfl) rfl rfl))⟩
  obtain ⟨a, xs, rfl, hq, q⟩ := q1
  obtain rfl : u = Value.ref a := r1
  obtain ⟨its, rv, pl, hz⟩ := I1.list hq
  refine call_reversed_list pl.isList (args_nil ?_)
  have k0 : ∀ b o, s1.heap.get? b = some o → (s1.heap.push (revObj a ((its.toArray.size : Int) - 1))).get? b = some o := fun b o e => Heap.get?_push_of_some _ e
  have I2 : Inv X pins σ H1 { s1 with heap := s1.heap.push (revObj a ((its.toArray.size : Int) - 1)) } := I1.kept (t' := s1.toks) k0
  have fp := I1.fpOk (H' := H1) (b := s1.heap.objs.size) (Nat.le_refl _) (I1.hok.fresh (Nat.le_refl _))
  have hl := pl.isList
  obtain ⟨ol, hol, _⟩ := id hl
  refine call_list_rv (s := { s1 with heap := s1.heap.push (revObj a ((its.toArray.size : Int) - 1)) }) (I1.ok.hd hc) ⟨_, Heap.get?_push_size _ rfl, rfl, rfl⟩ (hl.push _) (Nat.ne_of_lt (Heap.lt_size hol)) (by rw [List.size_toArray, ← rv.length]; exact hz) fun h' tk acc c' hk h2 hacc => ?_
  refine ⟨.ref _, upd H1 _ (.lst xs.reverse), I2.turnedNew (t' := tk) (ch := [s1.heap.objs.size]) (fun b o hb e => hk b o (fun z => hb (List.mem_singleton.mpr z)) e) (fun b hb => ?_) (Nat.le_refl _)
    (show ObjOk X.prog X.w _ _ _ (.lst xs.reverse) from ⟨by rw [List.length_reverse]; exact hz, acc.toList, c', RT.vals_rev rv hacc, by rw [Array.toArray_toList]; exact h2⟩), rfl, q _ (I2.hok.fresh (Nat.le_refl _))⟩
  rw [List.mem_singleton.mp hb]
  exact fp
end
/-- the list, turned about -/
theorem rv_of {K : PySem.W.Frag} {H : Hp} {S : Ad} {v : V} {d : D} {r : D × Os} {Q : VK} (l : ∀ a, S a → H a ≠ none) (h : Rb K H S v d) (e : bi1 .listRev d = some r) (q : Fin K H S r Q) : rRv K v H Q := by
  obtain ⟨ds, e1, e2⟩ := Option.bind_eq_some_iff.mp (show (asL d).bind _ = some r from e)
  cases e2
  rw [asL_some e1] at h
  obtain ⟨a, xs, rfl, ha, ra⟩ := h.list
  exact ⟨a, xs, rfl, SqL.of ha, fun p hp => q.lst l hp ra.reverse⟩
end Pv

set_option Elab.async false
set_option linter.all false
set_option maxRecDepth 100000
/-! Pv7: from the text to the code: expressions. -/
namespace Pv
open PySem L2 PyProof.Rows
/-- a global that is read: a free builtin, or a whole number -/
abbrev Gf := Str × Option Int
/-- where an expression stands: the slots' names, the scope that runs, known defs with their arities, free builtins, slots that may be owned -/
structure Inf where
  N : List Str
  sc : Scope
  infn : Bool
  fs : List (Str × Nat)
  bs : List Gf
  own : List Nat
def Inf.ix (I : Inf) (x : Str) : Option Nat := I.N.findIdx? (· == x)
def visB (sc : Scope) (x : Str) : Bool := match sc.names.lookup x with
  | some .local => true
  | some .cell => true
  | some .free => true
  | _ => false
def Inf.slot (I : Inf) (x : Str) : Option Nat := if visB I.sc x && (!(x == ("__debug__" : Str)) && !(x == ("__classdict__" : Str))) then I.ix x else none
def Inf.loc (I : Inf) (x : Str) : Option Nat := match I.sc.names.lookup x with
  | some .local => I.ix x
  | some .cell => if I.infn then I.ix x else none
  | _ => none
def glB (sc : Scope) (x : Str) : Bool := sc.names.lookup x == some .globalImplicit
def Inf.bi (I : Inf) (x : Str) : Bool := glB I.sc x && I.bs.contains (x, none)
def Inf.gi (I : Inf) (x : Str) : Option Int := if glB I.sc x && !(x == ("__debug__" : Str)) then (I.bs.find? fun p => p.1 == x && p.2.isSome).bind (·.2) else none
def notStar : Expr → Bool
  | .Starred _ _ => false
  | _ => true
theorem star_of {e : Expr} {es : List Expr} {env : Env} (h : notStar e = true) : starEach (e :: es) env = (false, eval e env) :: starEach es env := by
  cases e <;> first | rfl | cases h
theorem stars_plain {pos : Pos} {env : Env} : ∀ {es : List Expr}, (es.all notStar) = true → (backTo pos (starEach es env)).any (·.1) = false
  | [], _ => rfl
  | e :: es, h => by
    simp only [List.all_cons, Bool.and_eq_true] at h
    rw [star_of h.1]
    show (false || (backTo pos (starEach es env)).any (·.1)) = false
    rw [stars_plain h.2]; rfl
def ofOp : Operator → Option Op2
  | .Add => some .add | .Sub => some .sub | .Mult => some .mul | .FloorDiv => some .fdiv | .Mod => some .mod | .Pow => some .pow | .LShift => some .shl | .BitAnd => some .band | .BitOr => some .bor
  | _ => none
theorem ofOp_eq {o : Operator} {p : Op2} (h : ofOp o = some p) : o = toOp p := by
  cases o <;> first | (cases h; rfl) | cases h
def ofCmp : CmpOp → Option Cm
  | .Eq => some .eq | .NotEq => some .ne | .Lt => some .lt | .LtE => some .le | .Gt => some .gt | .GtE => some .ge | .Is => some .isn | .IsNot => some .isnn | .In => some .inn | .NotIn => some .nin
theorem ofCmp_eq {o : CmpOp} {p : Cm} (h : ofCmp o = some p) : o = toCmp p := by
  cases o <;> first | (cases h; rfl) | cases h
/-- plain as a subscript: no slice -/
def plainIx : Expr → Bool
  | .Slice _ _ _ _ => false
  | _ => true
theorem plainIx_ok {e : Expr} (h : plainIx e = true) : PlainIx e := by
  intro o i
  cases e <;> first | rfl | cases h
/-- the callbacks of one level -/
structure Cb where
  e : Inf → Bool → Expr → Option C
  t : Inf → Expr → Option C
def args (r : Inf → Bool → Expr → Option C) (I : Inf) (b : Bool) : List Expr → Option C
  | [] => some .nil
  | e :: es => if notStar e then (r I b e).bind fun c => (args r I b es).map fun d => .cons c d else none
def bools (r : Inf → Bool → Expr → Option C) (I : Inf) (op : BoolOp) : List Expr → Option C
  | [] => none
  | [e] => r I true e
  | e :: es => (r I true e).bind fun c => (bools r I op es).map fun d => match op with
    | .And => .and c d
    | .Or => .or c d
def boolsT (r : Inf → Expr → Option C) (I : Inf) (op : BoolOp) : List Expr → Option C
  | [] => none
  | [e] => r I e
  | e :: es => (r I e).bind fun c => (boolsT r I op es).map fun d => match op with
    | .And => .and c d
    | .Or => .or c d
def constD : Const → Option D
  | .none => some .none
  | .bool b => some (.bool b)
  | .int i => some (.int i)
  | .str s => some (.str s)
  | _ => none
def part (r : Inf → Bool → Expr → Option C) (I : Inf) : Option Expr → Option C
  | none => some .nil
  | some e => (r I true e).map fun c => .cons c .nil
/-- targets -/
def nms (I : Inf) : List Expr → Option (List Nat)
  | [] => some []
  | .Name x _ :: es => (I.loc x).bind fun i => (nms I es).map (i :: ·)
  | _ => none
def tgt (I : Inf) : Expr → Option Tg
  | .Name x _ => (I.loc x).map .nm
  | .Tuple es _ _ => (nms I es).bind fun is => if is.length < 1000 then some (.tu is) else none
  | _ => none
def isTup : Expr → Bool
  | .Tuple _ _ _ => true
  | _ => false
/-- what is walked -/
def iter (r : Inf → Bool → Expr → Option C) (I : Inf) (tg : Expr) : Expr → Option (Ik × C)
  | .Call (.Name f p) [a] [] pos => if I.bi f && f == ("range" : Str) then (args r I false [a]).map fun c => (.range, c)
      else if I.bi f && f == ("enumerate" : Str) && isTup tg then (args r I false [a]).map fun c => (.enum, c)
      else (r I false (.Call (.Name f p) [a] [] pos)).map fun c => (.seq, .cons c .nil)
  | .Call (.Name f p) [a, b] [] pos => if I.bi f && f == ("range" : Str) then (args r I false [a, b]).map fun c => (.range, c)
      else if I.bi f && f == ("zip" : Str) && isTup tg then (args r I false [a, b]).map fun c => (.zip, c)
      else (r I false (.Call (.Name f p) [a, b] [] pos)).map fun c => (.seq, .cons c .nil)
  | .Call (.Name f p) [a, b, c] [] pos => if I.bi f && f == ("range" : Str) then (args r I false [a, b, c]).map fun c => (.range, c)
      else (r I false (.Call (.Name f p) [a, b, c] [] pos)).map fun c => (.seq, .cons c .nil)
  | e => (r I false e).map fun c => (.seq, .cons c .nil)
def noFold : Expr → Bool
  | .Set _ _ _ => false
  | _ => true
theorem noFold_ok {e : Expr} {env : Env} (h : noFold e = true) : ∀ x, foldedSetIterable e env x = pure x := by
  intro x
  cases e <;> first | rfl | cases h
/-- a builtin by its name and how many arguments -/
def biTab : List (Str × Nat × Bi × Bool × String) := [("len", 1, .len, false, "len"), ("abs", 1, .abs, false, "abs"), ("list", 1, .list, true, "list"), ("int", 1, .int, true, "int"), ("str", 1, .str, true, "str"), ("sum", 1, .sum, false, "sum"),
  ("all", 1, .all, false, "all"), ("sorted", 1, .sorted, false, "sorted"), ("max", 1, .maxl, false, "max"), ("min", 1, .minl, false, "min"), ("max", 2, .max2, false, "max"), ("min", 2, .min2, false, "min")]
def biOf (f : Str) (n : Nat) : Option (Bi × Bool × String) := (biTab.find? fun p => p.1 == f && p.2.1 == n).map (·.2.2)
def tyOf (x : Str) : Option Ty :=
  if x == ("int" : Str) then some .int else if x == ("bool" : Str) then some .bool else if x == ("list" : Str) then some .list else if x == ("tuple" : Str) then some .tuple else if x == ("str" : Str) then some .str else none
/-- a comprehension's block -/
def blkInf (I : Inf) (scope : Scope) : Inf := { I with sc := relS scope I.sc, infn := false }
def kindEq (k l : NameKind) : Bool := decide (k = l)
def blkB (I : Inf) (scope : Scope) (own : List Nat) : Bool :=
  decide (scope.kind = .function) && (scope.names.all fun y => decide (scope.names.lookup y.1 = some y.2)) &&
  (scope.names.all fun y => !(kindEq y.2 .free) || (decide (I.sc.names.lookup y.1 = some .cell) || decide (I.sc.names.lookup y.1 = some .free))) &&
  (scope.names.all fun y => !(kindEq y.2 .local || kindEq y.2 .cell) || (own.any fun i => decide (I.N[i]? = some y.1)) || !(I.N.contains y.1)) &&
  (own.all fun i => decide (i < I.N.length)) && decide own.Nodup
/-- set(a) -/
def setArg (I : Inf) : List Expr → Option Expr
  | [.Call (.Name g _) [a] [] _] => if I.bi g && g == ("set" : Str) then some a else none
  | _ => none
/-- list(reversed(a)) -/
def revArg (I : Inf) (f : Str) : List Expr → Option Expr
  | [.Call (.Name g _) [a] [] _] => if I.bi g && g == ("reversed" : Str) && (I.bi f && f == ("list" : Str)) && notStar a then some a else none
  | _ => none
def stepE (r : Cb) (I : Inf) (b : Bool) : Expr → Option C
  | .Name x _ => match I.slot x with
    | some i => some (if b then .brw i else .var i)
    | none => (I.gi x).map fun n => .cst (.int n)
  | .Constant c _ _ => (constD c).map .cst
  | .BinOp a o c _ => (ofOp o).bind fun o => (r.e I true a).bind fun ca => (r.e I true c).map fun cc => .bin o ca cc
  | .UnaryOp .USub a _ => (r.e I true a).map .neg
  | .UnaryOp .Not a _ => (r.e I true a).map .not
  | .Compare a [o] [c] _ => (ofCmp o).bind fun p => if behindInMarks o c then none else (r.e I true a).bind fun ca => (r.e I true c).map fun cc => .cmp p ca cc
  | .Compare a [o, p] [c, d] _ => (ofCmp o).bind fun o' => (ofCmp p).bind fun p' => if lastMarks [o, p] [c, d] then none else (r.e I true a).bind fun ca => (r.e I true c).bind fun cc => (r.e I true d).map fun cd => .chain o' p' ca cc cd
  | .BoolOp op es _ => bools r.e I op es
  | .IfExp t a c _ => (r.t I t).bind fun ct => (r.e I b a).bind fun ca => (r.e I b c).map fun cc => .ite ct ca cc
  | .Call (.Name f _) as [] _ => match revArg I f as with
    | some a => (r.e I true a).map fun c => .bi .listRev (.cons c .nil)
    | none => match setArg I as with
    | some a => if I.bi f && f == ("sorted" : Str) then (args r.e I true [a]).map fun c => .bi .sortedSet c
        else if I.bi f && f == ("len" : Str) then (args r.e I true [a]).map fun c => .bi .lenSet c
        else none
    | none => callE r I f as
  | .Subscript a (.Slice lo hi none _) _ => (r.e I true a).bind fun ca => (part r.e I lo).bind fun cl => (part r.e I hi).map fun ch => .sl ca cl ch
  | .Subscript a i _ => if plainIx i then (r.e I true a).bind fun ca => (r.e I true i).map fun ci => .idx ca ci else none
  | .Dict [] [] _ => if I.own.contains 1000000 then some .dnewI else some .dnew
  | .Tuple es _ _ => (args r.e I false es).bind fun c => if argsLen c ≤ 1000 then some (.tup c) else none
  | .List es _ => (args r.e I false es).bind fun c => if argsLen c ≤ 1000 then some (.lst c) else none
  | .ListComp elt [⟨tg, it, ifs, k⟩] scope _ => if k = 0 && noFold it then (tgt (blkInf I scope) tg).bind fun t => if blkB I scope (tgSlots t) then (iter r.e I tg it).bind fun ki => (condC r (blkInf I scope) ifs).bind fun cc => (r.e (blkInf I scope) false elt).map fun ce => .lc t ki.1 ki.2 cc ce else none else none
  | _ => none
where
  callE (r : Cb) (I : Inf) (f : Str) (as : List Expr) : Option C :=
    if f == ("isinstance" : Str) && I.bi f then match as with
      | [a, .Name ty _] => if notStar a && I.bi ty then (tyOf ty).bind fun t => (r.e I true a).map fun c => .isi t c else none
      | _ => none
    else if I.bi f then (biOf f as.length).bind fun k => (args r.e I true as).map fun c => .bi k.1 c
    else if glB I.sc f && !(f == ("__debug__" : Str)) then match I.fs.lookup f with
      | some n => if as.length == n && !as.isEmpty then (args r.e I false as).map fun c => .call f c else none
      | none => none
    else none
  condC (r : Cb) (I : Inf) : List Expr → Option C
    | [] => some (.cst (.bool true))
    | [c] => r.t I c
    | _ => none
/-- a value that is a truth -/
def valT : Expr → Bool
  | .Name _ _ => true
  | .Call _ _ _ _ => true
  | .Subscript _ _ _ => true
  | .Constant _ _ _ => true
  | _ => false
def stepT (r : Cb) (I : Inf) : Expr → Option C
  | .UnaryOp .Not a _ => (r.t I a).map .not
  | .BoolOp op es _ => boolsT r.t I op es
  | .Compare a [o] [c] _ => (ofCmp o).bind fun p => if behindInMarks o c then none else (r.e I true a).bind fun ca => (r.e I true c).map fun cc => .cmp p ca cc
  | .Compare a [o, p] [c, d] _ => (ofCmp o).bind fun o' => (ofCmp p).bind fun p' => if lastMarks [o, p] [c, d] then none else (r.e I true a).bind fun ca => (r.e I true c).bind fun cc => (r.e I true d).map fun cd => .chain o' p' ca cc cd
  | e => if valT e then r.e I true e else none
def cb : Nat → Cb
  | 0 => ⟨fun _ _ _ => none, fun _ _ => none⟩
  | n + 1 => ⟨stepE (cb n), stepT (cb n)⟩
end Pv

set_option Elab.async false
set_option linter.all false
set_option maxRecDepth 100000
/-! Pv7b: the code of an expression is what it does. -/
namespace Pv
open PySem L2 PyProof.Rows
variable {X : Cx} {Φ : Ph} {I : Inf}
structure CallOk (X : Cx) (Φ : Ph) (f : Str) (n : Nat) : Prop where
  ex : ∃ (k : Nat) (fa : Addr) (fd : FuncData) (ps : List Str), FnOk X.prog X.w X.K X.mg X.base CX0 k fa fd ps (spF X.K Φ f n) ∧ Room k X.A ∧ X.mg f = some (.ref fa) ∧ PySem.W.keepIn X.K (.ref fa) = true ∧ Binds X.K fd ps []
/-- what is known of such a global -/
def GfOk (mg : Str → Option Value) (p : Gf) : Prop := (p.2 = none → mg p.1 = none) ∧ ∀ i, p.2 = some i → ∃ t, mg p.1 = some (.int i t)
structure CxI (X : Cx) (Φ : Ph) (I : Inf) : Prop where
  N : X.N = I.N
  sc : X.env.scope = I.sc
  nd : X.N.Nodup
  kd : X.env.scope.kind = .function
  calm : X.calm = true
  un : X.A.units + 200 < cLine
  fn : I.infn = true → ∀ x, X.fn x = true
  fs : ∀ f n, I.fs.lookup f = some n → CallOk X Φ f n
  bs : ∀ p ∈ I.bs, GfOk X.mg p
structure Sound (Φ : Ph) (r : Cb) : Prop where
  e : ∀ (X : Cx) (I : Inf), CxI X Φ I → ∀ b e c, r.e I b e = some c → PE X e (tE X.K Φ c)
  t : ∀ (X : Cx) (I : Inf), CxI X Φ I → ∀ e c, r.t I e = some c → PT X e (tT X.K Φ c)
theorem ix_ok (x : CxI X Φ I) {n : Str} {i : Nat} (h : I.ix n = some i) : X.N[i]? = some n := by
  unfold Inf.ix at h
  rw [x.N]
  obtain ⟨h1, h2, _⟩ := List.findIdx?_eq_some_iff_getElem.mp h
  rw [List.getElem?_eq_getElem h1]
  rw [beq_iff_eq.mp h2]
theorem slot_ok (x : CxI X Φ I) {n : Str} {i : Nat} {pos : Pos} (h : I.slot n = some i) : PE X (.Name n pos) (tVar i) := by
  unfold Inf.slot at h
  split at h
  · rename_i hc
    simp only [Bool.and_eq_true, Bool.not_eq_true'] at hc
    refine pe_var (ix_ok x h) ?_ hc.2.1 hc.2.2
    have hv := hc.1
    unfold visB at hv
    unfold Vis
    rw [x.sc]
    split at hv
    · rename_i e; exact .inl e
    · rename_i e; exact .inr (.inl e)
    · rename_i e; exact .inr (.inr e)
    · cases hv
  · cases h
theorem loc_ok (x : CxI X Φ I) {n : Str} {i : Nat} (h : I.loc n = some i) : X.N[i]? = some n ∧ L2.Loc X.env.scope n ∧ (X.fn n = true ∨ X.env.scope.names.lookup n = some .local) := by
  unfold Inf.loc at h
  unfold L2.Loc
  rw [x.sc]
  split at h
  · rename_i e
    exact ⟨ix_ok x h, .inl e, .inr e⟩
  · rename_i e
    split at h
    · rename_i hf
      exact ⟨ix_ok x h, .inr e, .inl (x.fn hf n)⟩
    · cases h
  · cases h
theorem gl_ok (x : CxI X Φ I) {n : Str} (h : glB I.sc n = true) : Gl X n := by
  unfold glB at h
  unfold Gl Env.kindOf
  rw [x.sc]
  exact beq_iff_eq.mp h
theorem bi_ok (x : CxI X Φ I) {n : Str} (h : I.bi n = true) : Gl X n ∧ X.mg n = none := by
  unfold Inf.bi at h
  rw [Bool.and_eq_true] at h
  exact ⟨gl_ok x h.1, (x.bs _ (List.contains_iff_mem.mp h.2)).1 rfl⟩
theorem argsF {r : Cb} (s : Sound Φ r) (x : CxI X Φ I) : ∀ {es : List Expr} {c : C}, args r.e I false es = some c → PA X es (tAs X.K Φ c) ∧ es.all notStar = true ∧ argsLen c = es.length
  | [], _, h => by cases h; exact ⟨sa_nil, rfl, rfl⟩
  | e :: es, c, h => by
    unfold args at h
    split at h
    · rename_i hn
      obtain ⟨ca, h1, h⟩ := Option.bind_eq_some_iff.mp h
      obtain ⟨cs, h2, h3⟩ := Option.map_eq_some_iff.mp h
      subst h3
      obtain ⟨i1, i2, i3⟩ := argsF s x h2
      exact ⟨sa_cons (s.e X I x _ _ _ h1) i1 (star_of hn), by simp [hn, i2], by simp [argsLen, i3]⟩
    · cases h
theorem argsT {r : Cb} (s : Sound Φ r) (x : CxI X Φ I) : ∀ {es : List Expr} {c : C}, args r.e I true es = some c → PA X es (tAb X.K Φ c) ∧ es.all notStar = true ∧ argsLen c = es.length
  | [], _, h => by cases h; exact ⟨sb_nil, rfl, rfl⟩
  | e :: es, c, h => by
    unfold args at h
    split at h
    · rename_i hn
      obtain ⟨ca, h1, h⟩ := Option.bind_eq_some_iff.mp h
      obtain ⟨cs, h2, h3⟩ := Option.map_eq_some_iff.mp h
      subst h3
      obtain ⟨i1, i2, i3⟩ := argsT s x h2
      exact ⟨sb_cons (s.e X I x _ _ _ h1) i1 (star_of hn), by simp [hn, i2], by simp [argsLen, i3]⟩
    · cases h
theorem bools_ok {r : Cb} (s : Sound Φ r) (x : CxI X Φ I) {op : BoolOp} {pos : Pos} : ∀ {es : List Expr} {c : C}, bools r.e I op es = some c → PE X (.BoolOp op es pos) (tE X.K Φ c)
  | [], _, h => by cases h
  | [e], c, h => se_one (s.e X I x _ _ _ h)
  | e :: e2 :: es, c, h => by
    unfold bools at h
    obtain ⟨ca, h1, h⟩ := Option.bind_eq_some_iff.mp h
    obtain ⟨cs, h2, h3⟩ := Option.map_eq_some_iff.mp h
    subst h3
    have ih := bools_ok s x (pos := pos) h2
    cases op with
    | And => exact se_and (s.e X I x _ _ _ h1) ih
    | Or => exact se_or (s.e X I x _ _ _ h1) ih
theorem boolsT_ok {r : Cb} (s : Sound Φ r) (x : CxI X Φ I) {op : BoolOp} {pos : Pos} : ∀ {es : List Expr} {c : C}, boolsT r.t I op es = some c → PW X (.BoolOp op es pos) (tT X.K Φ c)
  | [], _, h => by cases h
  | [e], c, h => by
    cases op with
    | And => exact sw_and1 (s.t X I x _ _ h)
    | Or => exact sw_or1 (s.t X I x _ _ h)
  | e :: e2 :: es, c, h => by
    unfold boolsT at h
    obtain ⟨ca, h1, h⟩ := Option.bind_eq_some_iff.mp h
    obtain ⟨cs, h2, h3⟩ := Option.map_eq_some_iff.mp h
    subst h3
    have ih := boolsT_ok s x (pos := pos) h2
    cases op with
    | And => exact sw_and (s.t X I x _ _ h1) ih
    | Or => exact sw_or (s.t X I x _ _ h1) ih
theorem part_ok {r : Cb} (s : Sound Φ r) (x : CxI X Φ I) {o : Option Expr} {c : C} (h : part r.e I o = some c) : PO X o (tO X.K Φ c) := by
  cases o with
  | none => cases h; exact so_none
  | some e =>
    obtain ⟨ca, h1, h2⟩ := Option.map_eq_some_iff.mp (show (r.e I true e).map _ = some c from h)
    subst h2
    exact so_some (s.e X I x _ _ _ h1)
theorem const_ok {k : Const} {j : Nat} {pos : Pos} {d : D} (h : constD k = some d) : PE X (.Constant k j pos) (tE X.K Φ (.cst d)) := by
  cases k with
  | none => cases h; exact se_cst pe_non fun _ _ _ => .non
  | bool b => cases h; exact se_cst pe_bl fun _ _ _ => .bl b
  | int i => cases h; exact se_cst pe_int fun _ _ _ => .int i
  | str z => cases h; exact se_cst pe_str fun _ _ _ => .str z
  | _ => cases h
theorem gi_ok (x : CxI X Φ I) {n : Str} {i : Int} {pos : Pos} (h : I.gi n = some i) : PE X (.Name n pos) (tE X.K Φ (.cst (.int i))) := by
  unfold Inf.gi at h
  split at h
  · rename_i hc
    simp only [Bool.and_eq_true, Bool.not_eq_true'] at hc
    obtain ⟨p, h1, h2⟩ := Option.bind_eq_some_iff.mp h
    have h3 := List.find?_some h1
    simp only [Bool.and_eq_true, beq_iff_eq] at h3
    obtain ⟨t, ht⟩ := (x.bs p (List.mem_of_find?_eq_some h1)).2 i h2
    rw [h3.1] at ht
    exact se_cst (pe_glob (v := .int i) (gl_ok x hc.1) ht ⟨t, rfl⟩ hc.2) fun _ _ _ => .int i
  · cases h
theorem nms_ok (x : CxI X Φ I) : ∀ {es : List Expr} {is : List Nat}, nms I es = some is → PGs X es (gMany is) ∧ (assignEach es X.env).length = is.length ∧ (assignEach es X.env).findIdx? (·.1) = none ∧ es.length = is.length
  | [], _, h => by cases h; exact ⟨sg_nil, rfl, rfl, rfl⟩
  | e :: es, is, h => by
    unfold nms at h
    split at h
    · rename_i heq; cases heq
    · rename_i n p es' heq
      cases heq
      obtain ⟨i, h1, h⟩ := Option.bind_eq_some_iff.mp h
      obtain ⟨js, h2, h3⟩ := Option.map_eq_some_iff.mp h
      subst h3
      obtain ⟨i1, i2, i3, i4⟩ := nms_ok x h2
      obtain ⟨l1, l2, l3⟩ := loc_ok x h1
      refine ⟨sg_cons (pg_name x.nd l1 l2 l3) i1 rfl, ?_, ?_, by simp [i4]⟩
      · show (assignEach es X.env).length + 1 = js.length + 1
        rw [i2]
      · show ((false, _) :: assignEach es X.env).findIdx? (·.1) = none
        rw [List.findIdx?_cons]
        simp [i3]
    · cases h
theorem tgt_ok (x : CxI X Φ I) {e : Expr} {t : Tg} (h : tgt I e = some t) : PG X e (tG X.K t) := by
  unfold tgt at h
  split at h
  · obtain ⟨i, h1, h2⟩ := Option.map_eq_some_iff.mp h
    subst h2
    obtain ⟨l1, l2, l3⟩ := loc_ok x h1
    exact pg_name x.nd l1 l2 l3
  · obtain ⟨is, h1, h2⟩ := Option.bind_eq_some_iff.mp h
    split at h2
    · cases h2
      obtain ⟨i1, i2, i3, _⟩ := nms_ok x h1
      exact sg_tup x.calm i1 i2 i3
    · cases h2
  · cases h
theorem eqS {a b : Str} (h : (a == b) = true) : a = b := beq_iff_eq.mp h
theorem iter_ok {r : Cb} (s : Sound Φ r) (x : CxI X Φ I) {tg e : Expr} {k : Ik} {c : C} (h : iter r.e I tg e = some (k, c)) : PI X tg e (tI X.K Φ k c) := by
  have seq : ∀ {e : Expr}, (r.e I false e).map (fun c => (Ik.seq, C.cons c .nil)) = some (k, c) → PI X tg e (tI X.K Φ k c) := fun {e} h => by
    obtain ⟨c', h1, h2⟩ := Option.map_eq_some_iff.mp h
    cases h2
    exact si_seq (s.e X I x _ _ _ h1)
  have tup : ∀ {e : Expr}, isTup e = true → ∃ es k p, e = .Tuple es k p := fun {e} h => by
    cases e <;> first | exact ⟨_, _, _, rfl⟩ | cases h
  unfold iter at h
  split at h
  · split at h
    · rename_i hc
      rw [Bool.and_eq_true] at hc
      have hf := eqS hc.2
      subst hf
      obtain ⟨c', h1, h2⟩ := Option.map_eq_some_iff.mp h
      cases h2
      obtain ⟨a1, a2, a3⟩ := argsF s x h1
      obtain ⟨b1, b2⟩ := bi_ok x hc.1
      simp only [List.all_cons, List.all_nil, Bool.and_true] at a2
      exact si_range1 a3 b1 b2 a1 (star_of a2)
    · split at h
      · rename_i hc
        rw [Bool.and_eq_true, Bool.and_eq_true] at hc
        have hf := eqS hc.1.2
        subst hf
        obtain ⟨c', h1, h2⟩ := Option.map_eq_some_iff.mp h
        cases h2
        obtain ⟨a1, a2, a3⟩ := argsF s x h1
        obtain ⟨b1, b2⟩ := bi_ok x hc.1.1
        obtain ⟨es, kk, p, rfl⟩ := tup hc.2
        simp only [List.all_cons, List.all_nil, Bool.and_true] at a2
        exact si_enum a3 b1 b2 a1 (star_of a2)
      · exact seq h
  · split at h
    · rename_i hc
      rw [Bool.and_eq_true] at hc
      have hf := eqS hc.2
      subst hf
      obtain ⟨c', h1, h2⟩ := Option.map_eq_some_iff.mp h
      cases h2
      obtain ⟨a1, a2, a3⟩ := argsF s x h1
      obtain ⟨b1, b2⟩ := bi_ok x hc.1
      simp only [List.all_cons, List.all_nil, Bool.and_true, Bool.and_eq_true] at a2
      exact si_range2 a3 b1 b2 a1 (by rw [star_of a2.1, star_of a2.2]; rfl) (star_of a2.2)
    · split at h
      · rename_i hc
        rw [Bool.and_eq_true, Bool.and_eq_true] at hc
        have hf := eqS hc.1.2
        subst hf
        obtain ⟨c', h1, h2⟩ := Option.map_eq_some_iff.mp h
        cases h2
        obtain ⟨a1, a2, a3⟩ := argsF s x h1
        obtain ⟨b1, b2⟩ := bi_ok x hc.1.1
        obtain ⟨es, kk, p, rfl⟩ := tup hc.2
        simp only [List.all_cons, List.all_nil, Bool.and_true, Bool.and_eq_true] at a2
        exact si_zip a3 b1 b2 a1 (star_of a2.1) (stars_plain (by simp [a2.2]))
      · exact seq h
  · split at h
    · rename_i hc
      rw [Bool.and_eq_true] at hc
      have hf := eqS hc.2
      subst hf
      obtain ⟨c', h1, h2⟩ := Option.map_eq_some_iff.mp h
      cases h2
      obtain ⟨a1, a2, a3⟩ := argsF s x h1
      obtain ⟨b1, b2⟩ := bi_ok x hc.1
      simp only [List.all_cons, List.all_nil, Bool.and_true, Bool.and_eq_true] at a2
      exact si_range3 a3 b1 b2 a1 (star_of a2.1) (stars_plain (by simp [a2.2]))
    · exact seq h
  · exact seq h
theorem pe_ty {n : Str} {T : String} {pos : Pos} (hg : Gl X n) (hm : X.mg n = none) (hv : bootBuiltins n = some (.type T)) (hn : n ≠ "__name__") (hdb : (n == ("__debug__" : Str)) = false) : PE X (.Name n pos) (tC (.ty T)) :=
  ⟨fun pins s σ H Q I h => ld_blt I hg hm hv ⟨.ty T, H, I, rfl, h⟩ hn hdb⟩
theorem tyOf_ok (x : CxI X Φ I) {n : Str} {t : Ty} {pos : Pos} (hb : I.bi n = true) (h : tyOf n = some t) : PE X (.Name n pos) (tC (.ty (tyN t))) := by
  obtain ⟨b1, b2⟩ := bi_ok x hb
  unfold tyOf at h
  split at h
  · rename_i e; cases eqS e; cases h; exact pe_ty b1 b2 (by decide +kernel) (by decide) (by decide)
  · split at h
    · rename_i e; cases eqS e; cases h; exact pe_ty b1 b2 (by decide +kernel) (by decide) (by decide)
    · split at h
      · rename_i e; cases eqS e; cases h; exact pe_ty b1 b2 (by decide +kernel) (by decide) (by decide)
      · split at h
        · rename_i e; cases eqS e; cases h; exact pe_ty b1 b2 (by decide +kernel) (by decide) (by decide)
        · split at h
          · rename_i e; cases eqS e; cases h; exact pe_ty b1 b2 (by decide +kernel) (by decide) (by decide)
          · cases h
end Pv

set_option Elab.async false
set_option linter.all false
set_option maxRecDepth 100000
/-! Pv7c: the code of an expression is what it does: the end. -/
namespace Pv
open PySem L2 PyProof.Rows
variable {X : Cx} {Φ : Ph} {I : Inf}
def BiGood (X : Cx) (p : Str × Nat × Bi × Bool × String) : Prop :=
  ((p.2.2.2.1 = false ∧ bootBuiltins p.1 = some (.builtin p.2.2.2.2) ∧ CallR X (.builtin p.2.2.2.2) (rBi X.K p.2.2.1)) ∨ (p.2.2.2.1 = true ∧ bootBuiltins p.1 = some (.type p.2.2.2.2) ∧ CallR X (.type p.2.2.2.2) (rBi X.K p.2.2.1))) ∧ p.1 ≠ "__name__" ∧ (p.1 == ("__debug__" : Str)) = false ∧ p.2.1 ≠ 0
theorem biTab_ok (x : CxI X Φ I) : ∀ p ∈ biTab, BiGood X p := by
  have un := x.un
  have cl := x.calm
  intro p hp
  simp only [biTab, List.mem_cons, List.not_mem_nil, or_false] at hp
  rcases hp with rfl | rfl | rfl | rfl | rfl | rfl | rfl | rfl | rfl | rfl | rfl | rfl
  · exact ⟨.inl ⟨rfl, by decide +kernel, bi_len⟩, by decide, by decide, by decide⟩
  · exact ⟨.inl ⟨rfl, by decide +kernel, bi_abs⟩, by decide, by decide, by decide⟩
  · exact ⟨.inr ⟨rfl, by decide +kernel, bi_list cl⟩, by decide, by decide, by decide⟩
  · exact ⟨.inr ⟨rfl, by decide +kernel, bi_int⟩, by decide, by decide, by decide⟩
  · exact ⟨.inr ⟨rfl, by decide +kernel, bi_str⟩, by decide, by decide, by decide⟩
  · exact ⟨.inl ⟨rfl, by decide +kernel, bi_sum cl⟩, by decide, by decide, by decide⟩
  · exact ⟨.inl ⟨rfl, by decide +kernel, bi_all cl⟩, by decide, by decide, by decide⟩
  · exact ⟨.inl ⟨rfl, by decide +kernel, bi_sorted x.calm un⟩, by decide, by decide, by decide⟩
  · exact ⟨.inl ⟨rfl, by decide +kernel, bi_max cl un⟩, by decide, by decide, by decide⟩
  · exact ⟨.inl ⟨rfl, by decide +kernel, bi_min cl un⟩, by decide, by decide, by decide⟩
  · exact ⟨.inl ⟨rfl, by decide +kernel, bi_max2 cl⟩, by decide, by decide, by decide⟩
  · exact ⟨.inl ⟨rfl, by decide +kernel, bi_min2 cl⟩, by decide, by decide, by decide⟩
theorem biOf_ok (x : CxI X Φ I) {f : Str} {n : Nat} {k : Bi × Bool × String} (h : biOf f n = some k) :
    ((k.2.1 = false ∧ bootBuiltins f = some (.builtin k.2.2) ∧ CallR X (.builtin k.2.2) (rBi X.K k.1)) ∨ (k.2.1 = true ∧ bootBuiltins f = some (.type k.2.2) ∧ CallR X (.type k.2.2) (rBi X.K k.1))) ∧ f ≠ "__name__" ∧ (f == ("__debug__" : Str)) = false ∧ n ≠ 0 := by
  obtain ⟨p, h1, h2⟩ := Option.map_eq_some_iff.mp h
  subst h2
  have hb := List.find?_some h1
  simp only [Bool.and_eq_true] at hb
  have hf := eqS hb.1
  have hn := beq_iff_eq.mp hb.2
  have g := biTab_ok x p (List.mem_of_find?_eq_some h1)
  unfold BiGood at g
  rw [hf, hn] at g
  exact g
theorem callE_ok {r : Cb} (s : Sound Φ r) (x : CxI X Φ I) {f : Str} {p pos : Pos} {as : List Expr} {c : C} (h : stepE.callE r I f as = some c) : PE X (.Call (.Name f p) as [] pos) (tE X.K Φ c) := by
  unfold stepE.callE at h
  split at h
  · rename_i hc
    rw [Bool.and_eq_true] at hc
    have hf := eqS hc.1
    subst hf
    obtain ⟨b1, b2⟩ := bi_ok x hc.2
    split at h
    · rename_i a ty tp
      split at h
      · rename_i hs
        rw [Bool.and_eq_true] at hs
        obtain ⟨t, h1, h⟩ := Option.bind_eq_some_iff.mp h
        obtain ⟨ca, h2, h3⟩ := Option.map_eq_some_iff.mp h
        subst h3
        exact se_isi (s.e X I x _ _ _ h2) (tyOf_ok x hs.2 h1) b1 b2 (star_of hs.1) rfl rfl
      · cases h
    · cases h
  · split at h
    · rename_i hb
      obtain ⟨k, h1, h⟩ := Option.bind_eq_some_iff.mp h
      obtain ⟨ca, h2, h3⟩ := Option.map_eq_some_iff.mp h
      subst h3
      obtain ⟨b1, b2⟩ := bi_ok x hb
      obtain ⟨k1, k2, k3, k4⟩ := biOf_ok x h1
      obtain ⟨a1, a2, _⟩ := argsT s x h2
      cases as with
      | nil => exact absurd rfl k4
      | cons e0 es =>
        simp only [List.all_cons, Bool.and_eq_true] at a2
        rcases k1 with ⟨_, e, q⟩ | ⟨_, e, q⟩
        · exact se_bi q b1 b2 e a1 k2 k3 (star_of a2.1) (stars_plain a2.2)
        · exact se_biT q b1 b2 e a1 k2 k3 (star_of a2.1) (stars_plain a2.2)
    · split at h
      · rename_i hg
        rw [Bool.and_eq_true, Bool.not_eq_true'] at hg
        split at h
        · rename_i n hl
          split at h
          · rename_i hn
            rw [Bool.and_eq_true, beq_iff_eq, Bool.not_eq_true'] at hn
            obtain ⟨ca, h2, h3⟩ := Option.map_eq_some_iff.mp h
            subst h3
            obtain ⟨a1, a2, a3⟩ := argsF s x h2
            obtain ⟨k, fa, fd, ps, F, hr, hm, hk, hb⟩ := (x.fs f n hl).ex
            cases as with
            | nil => exact absurd hn.2 (by simp)
            | cons e0 es =>
              simp only [List.all_cons, Bool.and_eq_true] at a2
              exact se_call (by rw [a3]; exact hn.1) F hr (gl_ok x hg.1) hm hk hb a1 hg.2 (star_of a2.1) (stars_plain a2.2)
          · cases h
        · cases h
      · cases h
theorem setArg_ok {as : List Expr} {a : Expr} (h : setArg I as = some a) : ∃ (g : Str) (p q : Pos), as = [.Call (.Name g p) [a] [] q] ∧ I.bi g = true ∧ g = "set" := by
  unfold setArg at h
  split at h
  · split at h
    · rename_i hc
      rw [Bool.and_eq_true] at hc
      cases h
      exact ⟨_, _, _, rfl, hc.1, eqS hc.2⟩
    · cases h
  · cases h
theorem revArg_ok {f : Str} {as : List Expr} {a : Expr} (h : revArg I f as = some a) : ∃ (g : Str) (p q : Pos), as = [.Call (.Name g p) [a] [] q] ∧ I.bi g = true ∧ g = "reversed" ∧ I.bi f = true ∧ f = "list" ∧ notStar a = true := by
  unfold revArg at h
  split at h
  · split at h
    · rename_i hc
      simp only [Bool.and_eq_true] at hc
      cases h
      exact ⟨_, _, _, rfl, hc.1.1.1, eqS hc.1.1.2, hc.1.2.1, eqS hc.1.2.2, hc.2⟩
    · cases h
  · cases h
theorem se_rev {e : Expr} {c : C} {p p2 pos pos2 : Pos} (hc : X.calm = true) (hg : Gl X "list") (hm : X.mg "list" = none) (hg2 : Gl X "reversed") (hm2 : X.mg "reversed" = none) (he : PE X e (tE X.K Φ c)) (hs : notStar e = true) :
    PE X (.Call (.Name "list" p) [.Call (.Name "reversed" p2) [e] [] pos2] [] pos) (tE X.K Φ (.bi .listRev (.cons c .nil))) :=
  pe_w (pe_lstRv hc hg hm hg2 hm2 he (star_of hs)) fun σ H Q ⟨S, ρ, r, R, e, q⟩ => by
    simp only [ev] at e
    obtain ⟨ds, e1, e2⟩ := Option.bind_eq_some_iff.mp e
    simp only [evb] at e1
    obtain ⟨y, e3, e4⟩ := Option.bind_eq_some_iff.mp e1
    cases e4
    refine tE_of R e3 fun v H1 S1 g1 r1 R1 => ?_
    exact rv_of g1.live r1.look e2 (Fin.of g1 q)
theorem condC_ok {r : Cb} (s : Sound Φ r) (x : CxI X Φ I) {ifs : List Expr} {c : C} (h : stepE.condC r I ifs = some c) : PTs X ifs (tT X.K Φ c) := by
  unfold stepE.condC at h
  split at h
  · cases h; exact sp_nil
  · exact sp_one (s.t X I x _ _ h)
  · cases h
theorem blk_ix {I : Inf} {scope : Scope} {is : List Nat} (h : blkB I scope is = true) : BlkOk I.N I.sc scope (is.map fun i => (I.N.getD i ("" : Str), i)) := by
  unfold blkB at h
  simp only [Bool.and_eq_true, decide_eq_true_eq, List.all_eq_true, Bool.or_eq_true, Bool.not_eq_true', List.any_eq_true] at h
  obtain ⟨⟨⟨⟨⟨h1, h2⟩, h3⟩, h4⟩, h5⟩, h6⟩ := h
  refine ⟨h1, h2, fun p hp => ?_, fun y hy e => ?_, fun y hy e => ?_⟩
  · obtain ⟨i, hi, rfl⟩ := List.mem_map.mp hp
    have hl := h5 i hi
    show I.N[i]? = some (I.N.getD i ("" : Str))
    rw [List.getElem?_eq_getElem hl, List.getD_eq_getElem?_getD, List.getElem?_eq_getElem hl]
    rfl
  · rcases h3 y hy with q | q
    · unfold kindEq at q
      rw [decide_eq_false_iff_not] at q
      exact absurd e q
    · exact q
  · rcases h4 y hy with (q | ⟨i, hi, q⟩) | q
    · unfold kindEq at q
      simp only [Bool.or_eq_false_iff, decide_eq_false_iff_not] at q
      rcases e with e | e
      · exact absurd e q.1
      · exact absurd e q.2
    · refine .inl (List.mem_map.mpr ⟨(I.N.getD i ("" : Str), i), List.mem_map.mpr ⟨i, hi, rfl⟩, ?_⟩)
      show I.N.getD i ("" : Str) = y.1
      rw [List.getD_eq_getElem?_getD, q]; rfl
    · right
      intro hm
      rw [List.contains_iff_mem.mpr hm] at q
      cases q
theorem blk_cx (x : CxI X Φ I) {scope : Scope} (hk : scope.kind = .function) (s : Shared) (H : Hp) (C : Addr) (cl : List (Str × Addr)) (fp : List Addr) : CxI (X.blk s H scope (compEnvC scope cl C X.env) fp) Φ (blkInf I scope) :=
  ⟨x.N, by show relS scope X.env.scope = relS scope I.sc; rw [x.sc], x.nd, hk, x.calm, x.un, fun h => (Bool.noConfusion h), fun f n h => ⟨(x.fs f n h).ex⟩, x.bs⟩
/-- a comprehension: its parts -/
theorem lc_parts {r : Cb} (s : Sound Φ r) (x : CxI X Φ I) {elt tg it : Expr} {ifs : List Expr} {scope : Scope} {k : Int} {c : C} {pos : Pos} {b : Bool} (h : stepE r I b (.ListComp elt [⟨tg, it, ifs, k⟩] scope pos) = some c) :
    ∃ t kk ci cc ce, c = .lc t kk ci cc ce ∧ k = 0 ∧ (tgSlots t).Nodup ∧ PI X tg it (tI X.K Φ kk ci) ∧ BlkOk X.N X.env.scope scope ((tgSlots t).map fun i => (I.N.getD i ("" : Str), i)) ∧
      (∀ (s : Shared) (H : Hp) (C : Addr) (cl : List (Str × Addr)) (fp : List Addr), PG (X.blk s H scope (compEnvC scope cl C X.env) fp) tg (tG X.K t)) ∧
      (∀ (s : Shared) (H : Hp) (C : Addr) (cl : List (Str × Addr)) (fp : List Addr), PTs (X.blk s H scope (compEnvC scope cl C X.env) fp) ifs (tT X.K Φ cc)) ∧
      (∀ (s : Shared) (H : Hp) (C : Addr) (cl : List (Str × Addr)) (fp : List Addr), PE (X.blk s H scope (compEnvC scope cl C X.env) fp) elt (tE X.K Φ ce)) ∧ (∀ x, foldedSetIterable it X.env x = pure x) := by
  simp only [stepE] at h
  split at h
  · rename_i hc
    rw [Bool.and_eq_true, decide_eq_true_eq] at hc
    obtain ⟨t, h1, h⟩ := Option.bind_eq_some_iff.mp h
    split at h
    · rename_i hb
      obtain ⟨ki, h2, h⟩ := Option.bind_eq_some_iff.mp h
      obtain ⟨cc, h3, h⟩ := Option.bind_eq_some_iff.mp h
      obtain ⟨ce, h4, h5⟩ := Option.map_eq_some_iff.mp h
      subst h5
      obtain ⟨kk, ci⟩ := ki
      have B := blk_ix hb
      refine ⟨t, kk, ci, cc, ce, rfl, hc.1, ?_, iter_ok s x h2, by rw [x.N, x.sc]; exact B, fun s1 H C cl fp => tgt_ok (blk_cx x B.kind s1 H C cl fp) h1, fun s1 H C cl fp => condC_ok s (blk_cx x B.kind s1 H C cl fp) h3, fun s1 H C cl fp => s.e _ _ (blk_cx x B.kind s1 H C cl fp) _ _ _ h4, noFold_ok hc.2⟩
      unfold blkB at hb
      simp only [Bool.and_eq_true, decide_eq_true_eq] at hb
      exact hb.2
    · cases h
  · cases h
theorem map_snd {is : List Nat} {f : Nat → Str} : (is.map fun i => (f i, i)).map (·.2) = is := by
  rw [List.map_map]
  exact List.map_id _
theorem se_lc {r : Cb} (s : Sound Φ r) (x : CxI X Φ I) {elt tg it : Expr} {ifs : List Expr} {scope : Scope} {k : Int} {c : C} {pos : Pos} {b : Bool} (h : stepE r I b (.ListComp elt [⟨tg, it, ifs, k⟩] scope pos) = some c) : PE X (.ListComp elt [⟨tg, it, ifs, k⟩] scope pos) (tE X.K Φ c) := by
  obtain ⟨t, kk, ci, cc, ce, rfl, rfl, hn, hi, B, hg, ht, he, hf⟩ := lc_parts s x h
  refine pe_w (pe_lc x.calm x.nd hi B hg ht he hf) fun σ H Q ⟨S, ρ, r, R, e, q⟩ => ?_
  rw [map_snd]
  exact tLc_of hn R e q
theorem stepE_ok {r : Cb} (s : Sound Φ r) (x : CxI X Φ I) : ∀ (e : Expr) (b : Bool) (c : C), stepE r I b e = some c → PE X e (tE X.K Φ c) := by
  intro e b c h
  have u := x.un
  have hu : X.A.units + 65 < cLine := by omega
  unfold stepE at h
  split at h
  · split at h
    · rename_i h1
      cases h
      cases b with
      | true => exact se_brw (slot_ok x h1)
      | false => exact se_var (slot_ok x h1)
    · obtain ⟨i, h1, h2⟩ := Option.map_eq_some_iff.mp h
      subst h2
      exact gi_ok x h1
  · obtain ⟨d, h1, h2⟩ := Option.map_eq_some_iff.mp h
    subst h2
    exact const_ok h1
  · obtain ⟨o, h1, h⟩ := Option.bind_eq_some_iff.mp h
    obtain ⟨ca, h2, h⟩ := Option.bind_eq_some_iff.mp h
    obtain ⟨cc, h3, h4⟩ := Option.map_eq_some_iff.mp h
    subst h4
    rw [ofOp_eq h1]
    exact se_bin (s.e X I x _ _ _ h2) (s.e X I x _ _ _ h3)
  · obtain ⟨ca, h1, h2⟩ := Option.map_eq_some_iff.mp h
    subst h2
    exact se_neg (s.e X I x _ _ _ h1)
  · obtain ⟨ca, h1, h2⟩ := Option.map_eq_some_iff.mp h
    subst h2
    exact se_not (s.e X I x _ _ _ h1)
  · obtain ⟨o, h1, h⟩ := Option.bind_eq_some_iff.mp h
    split at h
    · cases h
    · rename_i hm
      obtain ⟨ca, h2, h⟩ := Option.bind_eq_some_iff.mp h
      obtain ⟨cc, h3, h4⟩ := Option.map_eq_some_iff.mp h
      subst h4
      rw [ofCmp_eq h1] at hm ⊢
      exact se_cmp hu (s.e X I x _ _ _ h2) (s.e X I x _ _ _ h3) (by simpa using hm)
  · obtain ⟨o, h1, h⟩ := Option.bind_eq_some_iff.mp h
    obtain ⟨o', h1', h⟩ := Option.bind_eq_some_iff.mp h
    split at h
    · cases h
    · rename_i hm
      obtain ⟨ca, h2, h⟩ := Option.bind_eq_some_iff.mp h
      obtain ⟨cc, h3, h⟩ := Option.bind_eq_some_iff.mp h
      obtain ⟨cd, h4, h5⟩ := Option.map_eq_some_iff.mp h
      subst h5
      rw [ofCmp_eq h1, ofCmp_eq h1'] at hm ⊢
      exact se_chain (s.e X I x _ _ _ h2) (s.e X I x _ _ _ h3) (s.e X I x _ _ _ h4) (by simpa using hm)
  · exact bools_ok s x h
  · obtain ⟨ct, h1, h⟩ := Option.bind_eq_some_iff.mp h
    obtain ⟨ca, h2, h⟩ := Option.bind_eq_some_iff.mp h
    obtain ⟨cc, h3, h4⟩ := Option.map_eq_some_iff.mp h
    subst h4
    exact se_ite (s.t X I x _ _ h1) (s.e X I x _ _ _ h2) (s.e X I x _ _ _ h3)
  · split at h
    · rename_i a ha
      obtain ⟨g, p1, p2, rfl, hb, rfl, hf, rfl, hs⟩ := revArg_ok ha
      obtain ⟨b1, b2⟩ := bi_ok x hb
      obtain ⟨c1, c2⟩ := bi_ok x hf
      obtain ⟨ca, h2, h3⟩ := Option.map_eq_some_iff.mp h
      subst h3
      exact se_rev x.calm c1 c2 b1 b2 (s.e X I x _ _ _ h2) hs
    split at h
    · rename_i a ha
      obtain ⟨g, p1, p2, rfl, hb, rfl⟩ := setArg_ok ha
      obtain ⟨b1, b2⟩ := bi_ok x hb
      split at h
      · rename_i hc
        rw [Bool.and_eq_true] at hc
        have hf := eqS hc.2
        subst hf
        obtain ⟨c1, c2⟩ := bi_ok x hc.1
        obtain ⟨ca, h2, h3⟩ := Option.map_eq_some_iff.mp h
        subst h3
        obtain ⟨a1, a2, _⟩ := argsT s x h2
        simp only [List.all_cons, List.all_nil, Bool.and_true] at a2
        exact se_set x.calm u (bi_sortSet x.calm u) sortedSet_ok (fun _ _ => rfl) c1 c2 (by decide +kernel) b1 b2 a1 (by decide) (by decide) (star_of a2)
      · split at h
        · rename_i hc
          rw [Bool.and_eq_true] at hc
          have hf := eqS hc.2
          subst hf
          obtain ⟨c1, c2⟩ := bi_ok x hc.1
          obtain ⟨ca, h2, h3⟩ := Option.map_eq_some_iff.mp h
          subst h3
          obtain ⟨a1, a2, _⟩ := argsT s x h2
          simp only [List.all_cons, List.all_nil, Bool.and_true] at a2
          exact se_set x.calm u bi_lenSet lenSet_ok (fun _ _ => rfl) c1 c2 (by decide +kernel) b1 b2 a1 (by decide) (by decide) (star_of a2)
        · cases h
    · exact callE_ok s x h
  · obtain ⟨ca, h2, h⟩ := Option.bind_eq_some_iff.mp h
    obtain ⟨cl, h3, h⟩ := Option.bind_eq_some_iff.mp h
    obtain ⟨ch, h4, h5⟩ := Option.map_eq_some_iff.mp h
    subst h5
    exact se_sl (s.e X I x _ _ _ h2) (part_ok s x h3) (part_ok s x h4)
  · split at h
    · rename_i hp
      obtain ⟨ca, h2, h⟩ := Option.bind_eq_some_iff.mp h
      obtain ⟨ci, h3, h4⟩ := Option.map_eq_some_iff.mp h
      subst h4
      exact se_idx (by have := x.un; omega) (s.e X I x _ _ _ h2) (s.e X I x _ _ _ h3) (plainIx_ok hp)
    · cases h
  · split at h
    · cases h
      exact se_dnewI
    · cases h
      exact se_dnew
  · obtain ⟨ca, h2, h⟩ := Option.bind_eq_some_iff.mp h
    split at h
    · rename_i hl
      cases h
      exact se_tup hl (argsF s x h2).1
    · cases h
  · obtain ⟨ca, h2, h⟩ := Option.bind_eq_some_iff.mp h
    split at h
    · rename_i hl
      cases h
      exact se_lst hl (argsF s x h2).1
    · cases h
  · exact se_lc (b := b) s x (by unfold stepE; exact h)
  · cases h
theorem stepT_ok {r : Cb} (s : Sound Φ r) (x : CxI X Φ I) : ∀ (e : Expr) (c : C), stepT r I e = some c → PT X e (tT X.K Φ c) := by
  intro e c h
  have u := x.un
  have hu : X.A.units + 65 < cLine := by omega
  unfold stepT at h
  split at h
  · obtain ⟨ca, h1, h2⟩ := Option.map_eq_some_iff.mp h
    subst h2
    exact st_not (s.t X I x _ _ h1)
  · exact (boolsT_ok s x h).pt
  · obtain ⟨o, h1, h⟩ := Option.bind_eq_some_iff.mp h
    split at h
    · cases h
    · rename_i hm
      obtain ⟨ca, h2, h⟩ := Option.bind_eq_some_iff.mp h
      obtain ⟨cc, h3, h4⟩ := Option.map_eq_some_iff.mp h
      subst h4
      rw [ofCmp_eq h1] at hm ⊢
      exact st_cmp hu (s.e X I x _ _ _ h2) (s.e X I x _ _ _ h3) (by simpa using hm)
  · obtain ⟨o, h1, h⟩ := Option.bind_eq_some_iff.mp h
    obtain ⟨o', h1', h⟩ := Option.bind_eq_some_iff.mp h
    split at h
    · cases h
    · rename_i hm
      obtain ⟨ca, h2, h⟩ := Option.bind_eq_some_iff.mp h
      obtain ⟨cc, h3, h⟩ := Option.bind_eq_some_iff.mp h
      obtain ⟨cd, h4, h5⟩ := Option.map_eq_some_iff.mp h
      subst h5
      rw [ofCmp_eq h1, ofCmp_eq h1'] at hm ⊢
      exact st_chain (s.e X I x _ _ _ h2) (s.e X I x _ _ _ h3) (s.e X I x _ _ _ h4) (by simpa using hm)
  · split at h
    · rename_i hv
      refine st_val (s.e X I x _ _ _ h) fun whole => ?_
      cases e <;> first | rfl | cases hv
    · cases h
theorem cb_none (Φ : Ph) : Sound Φ (cb 0) where
  e := fun X I x b e c h => by
    have : (none : Option C) = some c := h
    cases this
  t := fun X I x e c h => by
    have : (none : Option C) = some c := h
    cases this
theorem cb_sound (Φ : Ph) : ∀ n, Sound Φ (cb n)
  | 0 => cb_none Φ
  | n + 1 => ⟨fun X I x b e c h => stepE_ok (cb_sound Φ n) x e b c h, fun X I x e c h => stepT_ok (cb_sound Φ n) x e c h⟩
end Pv

set_option Elab.async false
set_option linter.all false
set_option maxRecDepth 100000
/-! Pv8: from the text to the code: statements. -/
namespace Pv
open PySem L2 PyProof.Rows
variable {X : Cx} {Φ : Ph} {I : Inf}
/-- the slots that an expression hands on -/
def vars : C → List Nat
  | .var i => [i]
  | .cons a b => vars a ++ vars b
  | .bin _ a b => vars a ++ vars b
  | .neg a => vars a
  | .not a => vars a
  | .cmp _ a b => vars a ++ vars b
  | .chain _ _ a b c => vars a ++ (vars b ++ vars c)
  | .and a b => vars a ++ vars b
  | .or a b => vars a ++ vars b
  | .ite a b c => vars a ++ (vars b ++ vars c)
  | .call _ a => vars a
  | .bi _ a => vars a
  | .isi _ a => vars a
  | .idx a b => vars a ++ vars b
  | .sl a b c => vars a ++ (vars b ++ vars c)
  | .tup a => vars a
  | .lst a => vars a
  | .lc _ _ a b c => vars a ++ (vars b ++ vars c)
  | _ => []
def Inf.fz (I : Inf) (c : C) : List Nat := ((vars c).filter fun i => I.own.contains i).eraseDups
def isLc : Expr → Bool
  | .ListComp _ _ _ _ => true
  | .SetComp _ _ _ _ => true
  | .DictComp _ _ _ _ _ => true
  | _ => false
theorem swaps_no {e tg : Expr} {l : Nat} {env : Env} (h : isLc e = false) : swapsWith e (some tg) l env = pure false := by
  cases e <;> first | rfl | cases h
theorem swapsT_no {e : Expr} {es : List Expr} {k : Nat} {p : Pos} {l : Nat} {env : Env} : swapsWithSole [.Tuple es k p] e l env = pure false := by
  cases e <;> rfl
theorem swapsI_no {e o i : Expr} {p : Pos} {l : Nat} {env : Env} : swapsWithSole [.Subscript o i p] e l env = pure false := by
  cases e <;> rfl
theorem stores_no {e : Expr} {es : List Expr} {k : Nat} {p : Pos} {env : Env} (h : isTup e = false) : swappedStores [.Tuple es k p] e env = pure none := by
  cases e <;> first | rfl | cases h
def swapOk (I : Inf) (x y : Str) (px py : Pos) (a b : Expr) : Bool :=
  decide (I.sc.names.lookup x = some .local) && decide (I.sc.names.lookup y = some .local) && (px.line == py.line) && !(x == y) && notStar a && notStar b && !([a, b].all (foldedForSure 8)) && !([a, b].all (constantsAlone 8))
theorem swap_ok (x : CxI X Φ I) {n m : Str} {px py pt pt2 : Pos} {kt k2 : Nat} {a b : Expr} (h : swapOk I n m px py a b = true) :
    swappedStores [.Tuple [.Name n px, .Name m py] kt pt] (.Tuple [a, b] k2 pt2) X.env = pure (some [n, m]) := by
  unfold swapOk at h
  simp only [Bool.and_eq_true, decide_eq_true_eq, Bool.not_eq_true'] at h
  obtain ⟨⟨⟨⟨⟨⟨⟨h1, h2⟩, h3⟩, h4⟩, h5⟩, h6⟩, h7⟩, h8⟩ := h
  have hb : X.env.blockKind = .function := by unfold Env.blockKind; rw [x.kd]; rfl
  have k1 : X.env.kindOf n = some .local := by unfold Env.kindOf; rw [x.sc]; exact h1
  have k2 : X.env.kindOf m = some .local := by unfold Env.kindOf; rw [x.sc]; exact h2
  have hl : px.line = py.line := beq_iff_eq.mp h3
  have hne : n ≠ m := fun e => by
    subst e
    rw [beq_self_eq_true] at h4; cases h4
  have q1 : (n == m) = false := h4
  have q2 : (m == n) = false := by
    cases hq : m == n with
    | false => rfl
    | true => exact absurd (eqS hq).symm hne
  unfold swappedStores
  simp only [List.length_cons, List.length_nil, hb, List.head?_cons, Option.map_some, Option.getD_some, Expr.pos, h7, h8]
  split
  · rename_i hc; exact absurd hc (by decide)
  · split
    · rename_i hs
      exfalso
      simp only [List.any_cons, List.any_nil, Bool.or_false, Bool.or_eq_true] at hs
      rcases hs with hs | hs
      · cases a <;> first | exact Bool.noConfusion hs | exact Bool.noConfusion h5
      · cases b <;> first | exact Bool.noConfusion hs | exact Bool.noConfusion h6
    · split
      · rename_i hf
        exfalso
        simp [k1, k2, hl, List.eraseDups_cons, q1, q2] at hf
      · simp [k1, k2, hl]
def Inf.pcl (I : Inf) (y : Str) (py : Pos) (scope : Scope) (pos : Pos) : Bool :=
  decide (I.sc.names.lookup y = some .local) && (py.line == pos.line) && !(scope.names.any fun (n, k) => n == y && (k == .local || k == .cell))
/-- the name and the arguments of a method that is called as a statement -/
def methS (r : Cb) (I : Inf) (x m : Str) (p2 cp : Pos) (as : List Expr) : Option C :=
  if p2.endLine == cp.line then
    if m == ("append" : Str) then match as with
      | [e] => if notStar e then (I.slot x).bind fun i => (r.e I false e).map fun c => .app i (I.fz c) c else none
      | _ => none
    else if m == ("pop" : Str) && as.isEmpty then (I.slot x).map .pop
    else if m == ("clear" : Str) && as.isEmpty then (I.slot x).map .clr
    else if m == ("reverse" : Str) && as.isEmpty then (I.slot x).map .revl
    else none
  else none
def subOk : Expr → Bool
  | .Slice _ _ _ _ => false
  | _ => true
def asgS (n : Nat) (I : Inf) : Expr → Expr → Option C
  | .Name x px, e => match e with
    | .ListComp elt gs scope pos => if I.pcl x px scope pos then match gs with
        | [_] => (I.loc x).bind fun i => ((cb (n + 1)).e I false (.ListComp elt gs scope pos)).map fun c => .asg i (I.fz c) c
        | _ => none
      else (I.loc x).bind fun i => ((cb (n + 1)).e I false (.ListComp elt gs scope pos)).map fun c => .asg i (I.fz c) c
    | e => if isLc e then none else (I.loc x).bind fun i => ((cb (n + 1)).e I false e).map fun c => .asg i (I.fz c) c
  | .Tuple [.Name x px, .Name y py] kt pt, .Tuple [a, b] _ _ => if swapOk I x y px py a b then (I.ix x).bind fun i => (I.ix y).bind fun j => if i = j then none else (args (cb (n + 1)).e I false [a, b]).map fun c => .par i j c else none
  | .Tuple es _ _, e => if isTup e then none else (nms I es).bind fun is => if is.length < 1000 then ((cb (n + 1)).e I false e).map fun c => .unp is (I.fz c) c else none
  | .Subscript (.Name x _) k _, e => if subOk k then (I.slot x).bind fun i => ((cb (n + 1)).e I true k).bind fun ck => ((cb (n + 1)).e I false e).map fun c => .seti i (I.fz c) ck c else none
  | _, _ => none
def exprS (n : Nat) (I : Inf) : Expr → Option C
  | .Constant (.str _) _ _ => some .pass
  | .Call (.Attribute (.Name x _) m p2) as [] cp => methS (cb (n + 1)) I x m p2 cp as
  | e => if isLc e then none else ((cb (n + 1)).e I false e).map fun c => .drop (I.fz c) c
def retS (n : Nat) (I : Inf) : Option Expr → Option C
  | none => some (.ret [] (.cst .none))
  | some (.Name x _) => (I.slot x).map .retv
  | some e => ((cb (n + 1)).e I false e).map fun c => .ret (I.fz c) c
/-- tests that return, in the text and in the code -/
def chkS : List Stmt → Bool
  | [] => true
  | .If _ _ [] _ :: r => chkS r
  | _ => false
def chkC : C → Bool
  | .nil => true
  | .cons (.iff [] _ (.cons (.ret _ _) .nil) .nil) r => chkC r
  | _ => false
/-- a list that the loop looks at alone -/
def lookS (I : Inf) (tg it : Expr) (body : List Stmt) : Option (Nat × Nat) := match tg, it with
  | .Name y _, .Name x _ => if chkS body then (I.loc y).bind fun j => (I.slot x).bind fun i => if I.own.contains i && !(i == j) then some (j, i) else none else none
  | _, _ => none
def stepS (n : Nat) (rS : Inf → List Stmt → Option C) (I : Inf) : Stmt → Option C
  | .Pass _ => some .pass
  | .Break _ => some .brk
  | .Return o _ => retS n I o
  | .Assign [tg] e _ => asgS n I tg e
  | .AugAssign (.Name x _) .Add e _ => (I.loc x).bind fun i => ((cb (n + 1)).e I true e).map fun c => .aug i c
  | .Expr e _ => exprS n I e
  | .If t a b _ => ((cb (n + 1)).t I t).bind fun ct => (rS I a).bind fun ca => (rS I b).map fun cb' => .iff (I.fz ct) ct ca cb'
  | .For tg it body [] _ => match (lookS I tg it body).bind fun ji => (rS I body).bind fun c => if chkC c then some (C.forc ji.1 ji.2 c) else none with
    | some c => some c
    | none => if noFold it then (tgt I tg).bind fun t => (iter (cb (n + 1)).e I tg it).bind fun ki => (rS I body).map fun c => .for_ t ki.1 (I.fz ki.2) ki.2 c else none
  | .Raise _ _ _ => some .never
  | .While t body [] _ => ((cb (n + 1)).t I t).bind fun ct => (rS I body).map fun c => .whl ct c
  | _ => none
def stepB (f : Stmt → Option C) : List Stmt → Option C
  | [] => some .nil
  | s :: r => (f s).bind fun c => (stepB f r).map fun d => .cons c d
/-- a body -/
def body (n : Nat) : Nat → Inf → List Stmt → Option C
  | 0 => fun _ _ => none
  | m + 1 => fun I ss => stepB (stepS n (body n m) I) ss
structure CxS (X : Cx) (Φ : Ph) (I : Inf) : Prop extends CxI X Φ I where
  pas : PassesOwn (model X.prog X.w) X.A X.env X.xe
theorem ss_doc {x : Str} {j : Nat} {pos pos' : Pos} : PS X (.Expr (.Constant (.str x) j pos) pos') (tS X.K Φ .pass) := ps_w ps_doc fun E σ H ⟨S, ρ, o, R, e, p⟩ => by
  cases e
  exact p σ H S Gs.refl R fun a h => .inl h
theorem meth_ok {r : Cb} (s : Sound Φ r) (x : CxI X Φ I) {n m : Str} {p1 p2 cp pos : Pos} {as : List Expr} {c : C} (h : methS r I n m p2 cp as = some c) : PS X (.Expr (.Call (.Attribute (.Name n p1) m p2) as [] cp) pos) (tS X.K Φ c) := by
  unfold methS at h
  split at h
  · rename_i hl
    split at h
    · rename_i hm
      cases eqS hm
      split at h
      · rename_i e
        split at h
        · rename_i hs
          obtain ⟨i, h1, h⟩ := Option.bind_eq_some_iff.mp h
          obtain ⟨ce, h2, h3⟩ := Option.map_eq_some_iff.mp h
          subst h3
          exact ss_app (ps_expr (pe_bm PySem.F.plainAttrs_list PySem.F.slot_list_append PySem.F.type_list_append mt_append (slot_ok x h1) (pa_cons (s.e X I x _ _ _ h2) pa_nil (star_of hs)) rfl (by rw [star_of hs]; rfl) hl (star_of hs) rfl))
        · cases h
      · cases h
    · split at h
      · rename_i hm
        rw [Bool.and_eq_true] at hm
        cases eqS hm.1
        cases List.isEmpty_iff.mp hm.2
        obtain ⟨i, h1, h2⟩ := Option.map_eq_some_iff.mp h
        subst h2
        exact ss_pop (ps_expr (pe_bm0 PySem.F.plainAttrs_list PySem.F.slot_list_pop PySem.F.type_list_pop mt_pop (slot_ok x h1) rfl hl))
      · split at h
        · rename_i hm
          rw [Bool.and_eq_true] at hm
          cases eqS hm.1
          cases List.isEmpty_iff.mp hm.2
          obtain ⟨i, h1, h2⟩ := Option.map_eq_some_iff.mp h
          subst h2
          exact ss_clr (ps_expr (pe_bm0 PySem.F.plainAttrs_list PySem.F.slot_list_clear PySem.F.type_list_clear mt_clear (slot_ok x h1) rfl hl))
        · split at h
          · rename_i hm
            rw [Bool.and_eq_true] at hm
            cases eqS hm.1
            cases List.isEmpty_iff.mp hm.2
            obtain ⟨i, h1, h2⟩ := Option.map_eq_some_iff.mp h
            subst h2
            exact ss_revl (ps_expr (pe_bm0 PySem.F.plainAttrs_list PySem.F.slot_list_reverse PySem.F.type_list_reverse mt_reverse (slot_ok x h1) rfl hl))
          · cases h
  · cases h
theorem sw_no (x : CxI X Φ I) {elt : Expr} {gs : List Comprehension} {scope : Scope} {pos py : Pos} {y : Str} {l : Nat} (h : I.pcl y py scope pos = false) : swapsWith (.ListComp elt gs scope pos) (some (.Name y py)) l X.env = pure false := by
  unfold Inf.pcl at h
  unfold swapsWith
  have hb : X.env.blockKind = .function := by unfold Env.blockKind; rw [x.kd]; rfl
  have ky : X.env.kindOf y = I.sc.names.lookup y := by unfold Env.kindOf; rw [x.sc]
  show pure (X.env.blockKind == .function && X.env.kindOf y == some .local && py.line == (Expr.ListComp elt gs scope pos).pos.line && !(scope.names.any fun (n, k) => n == y && (k == .local || k == .cell))) = _
  rw [hb, ky]
  have e : (I.sc.names.lookup y == some NameKind.local) = decide (I.sc.names.lookup y = some .local) := by
    by_cases k : I.sc.names.lookup y = some .local
    · rw [k]; rfl
    · rw [decide_eq_false k]
      cases hh : I.sc.names.lookup y with
      | none => rfl
      | some z =>
        rw [hh] at k
        cases z <;> first | rfl | exact absurd rfl k
  rw [e]
  exact congrArg pure h
theorem cb_lc {n : Nat} {b : Bool} {e : Expr} {c : C} (h : (cb (n + 1)).e I b e = some c) : stepE (cb n) I b e = some c := h
theorem asg_ok {n : Nat} (x : CxI X Φ I) {tg e : Expr} {c : C} {pos : Pos} (h : asgS n I tg e = some c) : PS X (.Assign [tg] e pos) (tS X.K Φ c) := by
  have s := cb_sound Φ (n + 1)
  unfold asgS at h
  split at h
  · split at h
    · split at h
      · rename_i hc
        unfold Inf.pcl at hc
        simp only [Bool.and_eq_true, decide_eq_true_eq, Bool.not_eq_true'] at hc
        obtain ⟨⟨c1, c2⟩, c3⟩ := hc
        split at h
        · rename_i g
          obtain ⟨i, h1, h⟩ := Option.bind_eq_some_iff.mp h
          obtain ⟨cc, h2, h3⟩ := Option.map_eq_some_iff.mp h
          subst h3
          obtain ⟨l1, l2, l3⟩ := loc_ok x h1
          obtain ⟨gt, gi, gf, ga⟩ := g
          obtain ⟨t, kk, ci, ccd, ce, rfl, rfl, hn, hi, B, hg, ht, he, hf⟩ := lc_parts (cb_sound Φ n) x (cb_lc h2)
          rw [← x.sc] at c1
          have P := ps_setLc (spos := pos) x.calm x.nd l1 c1 (sw_true x.kd c1 c2 c3) hi B hg ht he hf
          rw [map_snd] at P
          exact ss_asgLc hn P
        · cases h
      · rename_i hc
        obtain ⟨i, h1, h⟩ := Option.bind_eq_some_iff.mp h
        obtain ⟨cc, h2, h3⟩ := Option.map_eq_some_iff.mp h
        subst h3
        obtain ⟨l1, l2, l3⟩ := loc_ok x h1
        have P := s.e X I x _ _ _ h2
        exact ss_asg P (ps_set x.nd l1 l2 P (sw_no x (by simpa using hc)) l3)
    · split at h
      · cases h
      · rename_i hl
        obtain ⟨i, h1, h⟩ := Option.bind_eq_some_iff.mp h
        obtain ⟨cc, h2, h3⟩ := Option.map_eq_some_iff.mp h
        subst h3
        obtain ⟨l1, l2, l3⟩ := loc_ok x h1
        have P := s.e X I x _ _ _ h2
        exact ss_asg P (ps_set x.nd l1 l2 P (swaps_no (by simpa using hl)) l3)
  · split at h
    · rename_i hc
      obtain ⟨i, h1, h⟩ := Option.bind_eq_some_iff.mp h
      obtain ⟨j, h2, h⟩ := Option.bind_eq_some_iff.mp h
      split at h
      · cases h
      · rename_i hij
        obtain ⟨cc, h3, h4⟩ := Option.map_eq_some_iff.mp h
        subst h4
        have hc0 := hc
        unfold swapOk at hc
        simp only [Bool.and_eq_true, decide_eq_true_eq, Bool.not_eq_true'] at hc
        exact ss_par (ps_par x.calm x.nd (ix_ok x h1) (ix_ok x h2) hij (by rw [x.sc]; exact hc.1.1.1.1.1.1.1) (by rw [x.sc]; exact hc.1.1.1.1.1.1.2) (argsF s x h3).1 (swap_ok x hc0) swapsT_no)
    · cases h
  · split at h
    · cases h
    · rename_i ht
      obtain ⟨is, h1, h⟩ := Option.bind_eq_some_iff.mp h
      split at h
      · obtain ⟨cc, h3, h4⟩ := Option.map_eq_some_iff.mp h
        subst h4
        obtain ⟨i1, i2, i3, _⟩ := nms_ok x h1
        exact ss_unp (ps_asg (s.e X I x _ _ _ h3) (sg_tup x.calm i1 i2 i3) swapsT_no (stores_no (by simpa using ht)))
      · cases h
  · split at h
    · rename_i hk
      obtain ⟨i, h1, h⟩ := Option.bind_eq_some_iff.mp h
      obtain ⟨ck, h2, h⟩ := Option.bind_eq_some_iff.mp h
      obtain ⟨cc, h3, h4⟩ := Option.map_eq_some_iff.mp h
      subst h4
      refine ss_seti (ps_asg (s.e X I x _ _ _ h3) (pg_sub (slot_ok x h1) (s.e X I x _ _ _ h2) (set_any (by have := x.un; omega)) ?_) swapsI_no ?_)
      · rename_i k _ _ _
        intro v
        cases k <;> first | rfl | cases hk
      · rfl
    · cases h
  · cases h
theorem expr_ok {n : Nat} (x : CxI X Φ I) {e : Expr} {c : C} {pos : Pos} (h : exprS n I e = some c) : PS X (.Expr e pos) (tS X.K Φ c) := by
  have s := cb_sound Φ (n + 1)
  unfold exprS at h
  split at h
  · cases h; exact ss_doc
  · exact meth_ok s x h
  · split at h
    · cases h
    · rename_i hl
      obtain ⟨cc, h3, h4⟩ := Option.map_eq_some_iff.mp h
      subst h4
      exact ss_drop (ps_expr (s.e X I x _ _ _ h3) (by cases e <;> first | rfl | exact absurd rfl hl))
theorem ret_ok {n : Nat} (x : CxI X Φ I) {o : Option Expr} {c : C} {pos : Pos} (h : retS n I o = some c) : PS X (.Return o pos) (tS X.K Φ c) := by
  have s := cb_sound Φ (n + 1)
  unfold retS at h
  split at h
  · cases h; exact ss_retN
  · obtain ⟨i, h1, h2⟩ := Option.map_eq_some_iff.mp h
    subst h2
    exact ss_retv (slot_ok x h1)
  · obtain ⟨cc, h3, h4⟩ := Option.map_eq_some_iff.mp h
    subst h4
    exact ss_ret (s.e X I x _ _ _ h3)
theorem chkC_ok : ∀ {c : C}, chkC c = true → ∀ (ρ : Rho) (o : Out), exec Φ c ρ = some o → (∀ ρ', o = .brk ρ' → False) ∧ ∀ ρ', o = .next ρ' → ρ' = ρ := by
  intro c
  induction c with
  | nil => intro _ ρ o e; cases e; exact ⟨fun ρ' h => (by cases h), fun ρ' h => (by cases h; rfl)⟩
  | cons a b _ ihb =>
    intro h ρ o e
    unfold chkC at h
    split at h
    · rename_i heq; cases heq
    · rename_i c0 F ca r heq
      cases heq
      simp only [exec, thenO] at e
      obtain ⟨o1, e0, e9⟩ := Option.bind_eq_some_iff.mp e
      obtain ⟨q, e1, e2⟩ := Option.bind_eq_some_iff.mp e0
      obtain ⟨k, e3, e4⟩ := Option.bind_eq_some_iff.mp e2
      cases k with
      | true =>
        simp only [if_true] at e4
        obtain ⟨o2, e6, e7⟩ := Option.bind_eq_some_iff.mp e4
        obtain ⟨q2, e8, e10⟩ := Option.bind_eq_some_iff.mp e6
        obtain ⟨q3, e11, e12⟩ := Option.map_eq_some_iff.mp e10
        subst e12
        cases e7
        cases e9
        exact ⟨fun ρ' h => (by cases h), fun ρ' h => (by cases h)⟩
      | false =>
        simp only [Bool.false_eq_true, if_false] at e4
        cases e4
        exact ihb h ρ o e9
    · cases h
  | _ => intro h; cases h
theorem lookS_ok (x : CxI X Φ I) {tg it : Expr} {body : List Stmt} {j i : Nat} (h : lookS I tg it body = some (j, i)) : ∃ (y z : Str) (py pz : Pos), tg = .Name y py ∧ it = .Name z pz ∧ chkS body = true ∧ I.loc y = some j ∧ I.slot z = some i ∧ i ≠ j := by
  unfold lookS at h
  split at h
  · rename_i y py z pz
    split at h
    · rename_i hc
      obtain ⟨j', h1, h⟩ := Option.bind_eq_some_iff.mp h
      obtain ⟨i', h2, h⟩ := Option.bind_eq_some_iff.mp h
      split at h
      · rename_i hh
        cases h
        rw [Bool.and_eq_true] at hh
        exact ⟨y, z, py, pz, rfl, rfl, hc, h1, h2, by simpa using hh.2⟩
      · cases h
    · cases h
  · cases h
theorem stepS_ok {n : Nat} {rS : Inf → List Stmt → Option C} (x : CxS X Φ I) (hr : ∀ ss c, rS I ss = some c → PSs X ss (tS X.K Φ c)) (hk : ∀ ss c, rS I ss = some c → chkS ss = true → chkC c = true → PSs X ss (tK X.K Φ c)) {st : Stmt} {c : C} (h : stepS n rS I st = some c) : PS X st (tS X.K Φ c) := by
  have s := cb_sound Φ (n + 1)
  have x0 := x.toCxI
  unfold stepS at h
  split at h
  · cases h; exact ss_pass
  · cases h; exact ss_brk
  · exact ret_ok x0 h
  · exact asg_ok x0 h
  · obtain ⟨i, h1, h⟩ := Option.bind_eq_some_iff.mp h
    obtain ⟨cc, h3, h4⟩ := Option.map_eq_some_iff.mp h
    subst h4
    obtain ⟨l1, l2, l3⟩ := loc_ok x0 h1
    exact ss_aug (ps_aug x.nd l1 l2 (s.e X I x0 _ _ _ h3) ip_add l3)
  · exact expr_ok x0 h
  · obtain ⟨ct, h1, h⟩ := Option.bind_eq_some_iff.mp h
    obtain ⟨ca, h2, h⟩ := Option.bind_eq_some_iff.mp h
    obtain ⟨cc, h3, h4⟩ := Option.map_eq_some_iff.mp h
    subst h4
    exact ss_if (s.t X I x0 _ _ h1) (hr _ _ h2) (hr _ _ h3)
  · split at h
    · rename_i cf hlk
      cases h
      obtain ⟨⟨j, i⟩, k1, hlk⟩ := Option.bind_eq_some_iff.mp hlk
      obtain ⟨cb0, k2, hlk⟩ := Option.bind_eq_some_iff.mp hlk
      split at hlk
      · rename_i hcc
        cases hlk
        obtain ⟨y, z, py, pz, rfl, rfl, hcs, l1, l2, hij⟩ := lookS_ok x0 k1
        exact ss_forc hij (slot_ok x0 l2) (tgt_ok x0 (show (I.loc y).map Tg.nm = some (.nm j) by rw [l1]; rfl)) (hk _ _ k2 hcs hcc) x.pas x.calm (chkC_ok hcc)
      · cases hlk
    split at h
    · rename_i hf
      obtain ⟨t, h1, h⟩ := Option.bind_eq_some_iff.mp h
      obtain ⟨ki, h2, h⟩ := Option.bind_eq_some_iff.mp h
      obtain ⟨cc, h3, h4⟩ := Option.map_eq_some_iff.mp h
      subst h4
      obtain ⟨kk, ci⟩ := ki
      exact ss_for (ps_for x.pas x.calm (iter_ok s x0 h2) (tgt_ok x0 h1) (hr _ _ h3) (noFold_ok hf))
    · cases h
  · cases h; exact ss_never
  · obtain ⟨ct, h1, h⟩ := Option.bind_eq_some_iff.mp h
    obtain ⟨cc, h3, h4⟩ := Option.map_eq_some_iff.mp h
    subst h4
    exact ss_while x.pas (s.t X I x0 _ _ h1) (hr _ _ h3)
  · cases h
theorem stepB_ok {f : Stmt → Option C} (hf : ∀ s c, f s = some c → PS X s (tS X.K Φ c)) : ∀ {ss : List Stmt} {c : C}, stepB f ss = some c → PSs X ss (tS X.K Φ c)
  | [], _, h => by cases h; exact ss_nil
  | s :: r, c, h => by
    unfold stepB at h
    obtain ⟨ca, h1, h⟩ := Option.bind_eq_some_iff.mp h
    obtain ⟨cc, h3, h4⟩ := Option.map_eq_some_iff.mp h
    subst h4
    exact ss_cons (hf _ _ h1) (stepB_ok hf h3)
theorem body_both {n : Nat} (x : CxS X Φ I) : ∀ (m : Nat), (∀ {ss : List Stmt} {c : C}, body n m I ss = some c → PSs X ss (tS X.K Φ c)) ∧ (∀ {ss : List Stmt} {c : C}, body n m I ss = some c → chkS ss = true → chkC c = true → PSs X ss (tK X.K Φ c))
  | 0 => by
    refine ⟨fun {ss c} h => ?_, fun {ss c} h => ?_⟩
    · exact nomatch (show (none : Option C) = some _ from h)
    · exact nomatch (show (none : Option C) = some _ from h)
  | m + 1 => by
    have ih := body_both (n := n) x m
    refine ⟨fun {ss c} h => stepB_ok (fun s c hs => stepS_ok x (fun ss c h => ih.1 h) (fun ss c h h1 h2 => ih.2 h h1 h2) hs) h, fun {ss c} h hs hc => ?_⟩
    have go : ∀ {ss : List Stmt} {c : C}, stepB (stepS n (body n m) I) ss = some c → chkS ss = true → chkC c = true → PSs X ss (tK X.K Φ c) := by
      intro ss
      induction ss with
      | nil => intro c h _ _; cases h; exact sk_nil
      | cons s r ihr =>
        intro c h hs hc
        unfold chkS at hs
        split at hs
        · rename_i heq; cases heq
        · rename_i t a p r' heq
          cases heq
          unfold stepB at h
          obtain ⟨ca, h1, h⟩ := Option.bind_eq_some_iff.mp h
          obtain ⟨cr, h2, h3⟩ := Option.map_eq_some_iff.mp h
          subst h3
          obtain ⟨ct, g1, h1⟩ := Option.bind_eq_some_iff.mp (show ((cb (n + 1)).t I t).bind _ = some ca from h1)
          obtain ⟨c2, g2, h1⟩ := Option.bind_eq_some_iff.mp h1
          obtain ⟨c3, g3, h1⟩ := Option.map_eq_some_iff.mp h1
          subst h1
          unfold chkC at hc
          split at hc
          · rename_i heq; cases heq
          · rename_i c0 F cv rr heq
            simp only [C.cons.injEq, C.iff.injEq] at heq
            obtain ⟨⟨e1, e2, e3, e4⟩, e5⟩ := heq
            rw [e1, e3, e4]
            rw [e3] at g2
            rw [e5] at h2
            rw [e5]
            exact sk_if ((cb_sound Φ (n + 1)).t X I x.toCxI _ _ g1) (ih.1 g2) (ihr h2 hs hc)
          · cases hc
        · cases hs
    exact go h hs hc
theorem body_ok {n : Nat} (x : CxS X Φ I) (m : Nat) {ss : List Stmt} {c : C} (h : body n m I ss = some c) : PSs X ss (tS X.K Φ c) := (body_both (n := n) x m).1 h
end Pv

set_option Elab.async false
set_option linter.all false
set_option maxRecDepth 100000
/-! Pv9: defs. -/
namespace Pv
open PySem L2 PyProof.Rows
theorem frz_nil (ρ : Rho) : frz [] ρ = ρ := rfl
theorem init_get {fn : Fn} {ds : List D} {i : Nat} {d : D} {o : Bool} (h : (init fn ds)[i]? = some (some (d, o))) : ds[i]? = some d ∧ o = false := by
  unfold init at h
  by_cases hi : i < ds.length
  · rw [List.getElem?_append_left (by simpa using hi), List.getElem?_map] at h
    cases e : ds[i]? with
    | none => rw [e] at h; cases h
    | some d' =>
      rw [e] at h
      cases h
      exact ⟨rfl, rfl⟩
  · rw [List.getElem?_append_right (by simpa using hi), List.getElem?_replicate] at h
    split at h <;> cases h
theorem rep_start {K : PySem.W.Frag} {H : Hp} {S : Ad} {fn : Fn} {N : List Str} {vs : List V} {ds : List D} (l : ∀ a, S a → H a ≠ none) (r : RpAll K H S vs ds) (hn : ds.length = fn.np) (hN : fn.ns = N.length) : Rep K (L2.start N vs) H S (init fn ds) := by
  have hl := r.length
  refine ⟨?_, fun i d o e => ?_, fun i j d d' a hij e1 e2 => ?_, l⟩
  · unfold init L2.start
    simp only [List.length_append, List.length_map, List.length_replicate]
    omega
  · obtain ⟨e1, rfl⟩ := init_get e
    obtain ⟨v, h1, h2⟩ := r.get e1
    refine ⟨v, ?_, by simpa using h2⟩
    have hi : i < vs.length := (List.getElem?_eq_some_iff.mp h1).1
    unfold L2.start
    rw [List.getElem?_append_left (by simpa using hi), List.getElem?_map, h1]
    rfl
  · cases (init_get e1).2
/-- a def's body does what the code says -/
theorem body_runs {K : PySem.W.Frag} {Φ : Ph} {f : Str} {fn : Fn} {N : List Str} {vs : List V} {H : Hp} {Q : VK} {E : XK} (imp : Impl Φ f fn) (hN : fn.ns = N.length) (h : spF K Φ f fn.np vs H Q E) :
    tS K Φ fn.body { nx := fun _ H' => Q .non H', rt := Q } (L2.start N vs) H := by
  obtain ⟨S, ds, r, l, hl, ra, e, q⟩ := h
  rw [imp ds] at e
  unfold evF at e
  rw [if_pos hl] at e
  obtain ⟨o, e1, e2⟩ := Option.bind_eq_some_iff.mp e
  have R := rep_start (N := N) l ra hl hN
  refine ⟨S, init fn ds, o, R, e1, ?_⟩
  have no : ∀ a, ¬ ownA (L2.start N vs) (init fn ds) a := fun a ⟨i, d, h1, h2⟩ => by cases (init_get h1).2
  cases o with
  | next ρ' =>
    cases e2
    exact fun σ' H' S' g R' _ => q .non H' S' (g.gr no R'.live) .non
  | brk ρ' => cases e2
  | ret d w =>
    cases e2
    refine fun v H' S' g lv rv => q v H' S' (g.gr no lv) ?_
    cases w with
    | false => exact rv
    | true =>
      obtain ⟨a, e, h, ns, c⟩ := rv
      exact ⟨a, e, h.elim (fun z => absurd z (no a)) fun z => z, ns, c⟩
theorem lk1 : ∀ {ns : List Str} {us : List Value} {n : Str}, us.length = ns.length → n ∈ ns → ((ns.zip us).lookup n).isNone = false
  | [], _, _, _, h => by cases h
  | m :: ns, [], _, h, _ => by simp at h
  | m :: ns, u :: us, n, h, hm => by
    rw [List.zip_cons_cons, List.lookup_cons]
    cases hq : n == m with
    | true => rfl
    | false =>
      rcases List.mem_cons.mp hm with e | e
      · subst e; rw [beq_self_eq_true] at hq; cases hq
      · exact lk1 (by simpa using h) e
theorem lk2 : ∀ {ns : List Str} {us : List Value}, us.length = ns.length → ns.Nodup → (ns.filterMap fun n => ((ns.zip us).lookup n).map fun x => (n, x)) = ns.zip us
  | [], us, h, _ => by simp
  | m :: ns, [], h, _ => by simp at h
  | m :: ns, u :: us, h, hn => by
    obtain ⟨h1, h2⟩ := List.nodup_cons.mp hn
    rw [List.filterMap_cons, List.zip_cons_cons, List.lookup_cons, beq_self_eq_true]
    show (m, u) :: _ = _
    congr 1
    have hc : ∀ n ∈ ns, (List.lookup n ((m, u) :: ns.zip us)).map (fun x => (n, x)) = (List.lookup n (ns.zip us)).map fun x => (n, x) := fun n hm => by
      rw [List.lookup_cons]
      have : (n == m) = false := by
        cases hq : n == m with
        | false => rfl
        | true => exact absurd (beq_iff_eq.mp hq ▸ hm) h1
      rw [this]
    have cg : ∀ (l : List Str) (f g : Str → Option (Str × Value)), (∀ n ∈ l, f n = g n) → l.filterMap f = l.filterMap g := by
      intro l f g
      induction l with
      | nil => intro _; rfl
      | cons a l ih =>
        intro hh
        rw [List.filterMap_cons, List.filterMap_cons, hh a List.mem_cons_self, ih fun n hn => hh n (List.mem_cons_of_mem _ hn)]
    rw [cg ns _ _ hc]
    exact lk2 (us := us) (by simpa using h) h2
theorem bindN {x qual : Str} {as : List Arg} {body : List Stmt} {scope : Scope} {kV doc pm : Value} {an : Option Addr} {cdv ct : Value} {us : List Value} (hn : (as.map (·.arg)).Nodup) (hl : us.length = (as.map (·.arg)).length) :
   bindArgs (PySem.W.fnOf x qual ⟨[], as, none, [], [], none, []⟩ body scope .none kV doc pm an cdv ct) ⟨us, []⟩ = pure ((as.map (·.arg)).zip us) := by
  have l2 := lk2 hl hn
  have l1 : (List.filter (fun n => (List.lookup n ((as.map (·.arg)).zip us)).isNone) (as.map (·.arg))) = [] := by
    rw [List.filter_eq_nil_iff]
    intro n hm
    rw [lk1 hl hm]; simp
  have h0 : seqItems? Value.none = pure none := rfl
  have hl2 : us.length = as.length := by simpa using hl
  simp only [bindArgs, PySem.W.fnOf, List.map_nil, List.nil_append, List.append_nil, h0]
  have l3 : ∀ k : Nat, (List.filter (fun n => (List.lookup n ((as.map (·.arg)).zip us)).isNone) (List.take ((as.map (·.arg)).length - (List.drop k ([] : List Value)).length) (as.map (·.arg)))) = [] := fun k => by
    rw [List.drop_nil, List.length_nil, Nat.sub_zero, List.take_length]; exact l1
  simp only [List.filterMap_map] at l2
  simp [hl2]
  rw [if_neg (by rw [l3]; simp)]
  rw [l2]

/-! ### the table -/
/-- one def: its name, parameters, slots, what it may own -/
structure DefI where
  name : Str
  ps : List Str
  N : List Str
  own : List Nat
  args : Arguments
  body : List Stmt
  scope : Scope
def DefI.inf (d : DefI) (fs : List (Str × Nat)) (bs : List Gf) : Inf := ⟨d.N, d.scope, true, fs, bs, d.own⟩
/-- parameters by position alone -/
def paramsB (a : Arguments) (ps : List Str) : Bool := match a with
  | ⟨[], as, none, [], [], none, []⟩ => decide (as.map (·.arg) = ps)
  | _ => false
def scopeB (N ps : List Str) (sc : Scope) : Bool :=
  decide (sc.kind = .function) && !sc.isCoroutine && !sc.isGenerator && decide N.Nodup && decide (N.take ps.length = ps) && (ps.all fun x => decide (sc.names.lookup x = some .local) || decide (sc.names.lookup x = some .cell)) && (sc.names.all fun y => !kindEq y.2 .free)
/-- a def's code -/
def DefI.code (d : DefI) (fs : List (Str × Nat)) (bs : List Gf) : Option C := Pv.body 60 30 (d.inf fs bs) d.body
/-- a def and its shape -/
def DefI.ok (d : DefI) (fn : Fn) : Bool :=
  paramsB d.args d.ps && scopeB d.N d.ps d.scope && decide (fn.np = d.ps.length) && decide (fn.ns = d.N.length)
theorem scopeB_ok {N ps : List Str} {sc : Scope} (h : scopeB N ps sc = true) : FnScope N ps sc := by
  unfold scopeB at h
  simp only [Bool.and_eq_true, decide_eq_true_eq, Bool.not_eq_true', List.all_eq_true, Bool.or_eq_true] at h
  obtain ⟨⟨⟨⟨⟨⟨h1, h2⟩, h3⟩, h4⟩, h5⟩, h6⟩, h7⟩ := h
  exact ⟨h1, h2, h3, h4, h5, h6, fun y hy e => by
    have := h7 y hy
    unfold kindEq at this
    rw [e] at this
    cases this⟩
/-- what is known of a def that may be called -/
structure Known (P : Program) (w : World) (K : PySem.W.Frag) (mg : Str → Option Value) (base : Heap) (Φ : Ph) (k : Nat) (f : Str) (n : Nat) : Prop where
  ex : ∃ (fa : Addr) (fd : FuncData) (ps : List Str), FnOk P w K mg base CX0 k fa fd ps (spF K Φ f n) ∧ mg f = some (.ref fa) ∧ PySem.W.keepIn K (.ref fa) = true ∧ Binds K fd ps []
theorem Known.mono {P : Program} {w : World} {K : PySem.W.Frag} {mg : Str → Option Value} {base : Heap} {Φ : Ph} {j k : Nat} {f : Str} {n : Nat} (h : Known P w K mg base Φ j f n) (hj : j ≤ k) : Known P w K mg base Φ k f n := by
  obtain ⟨fa, fd, ps, F, r⟩ := h.ex
  exact ⟨fa, fd, ps, F.mono hj, r⟩
theorem def_known {P : Program} {w : World} {K : PySem.W.Frag} {mg : Str → Option Value} {base : Heap} {Φ : Ph} {k : Nat} {d : DefI} {fn : Fn} {fs : List (Str × Nat)} {bs : List Gf} {qual : Str} {fa : Addr} {fd : FuncData}
    (F : FunD K d.name qual d.args d.body d.scope [] [] fa fd) (hm : mg d.name = some (.ref fa)) (ok : d.ok fn = true) (o5 : d.code fs bs = some fn.body) (imp : Impl Φ d.name fn)
    (hf : ∀ g n, fs.lookup g = some n → Known P w K mg base Φ k g n) (hb : ∀ x ∈ bs, GfOk mg x) :
    FnOk P w K mg base CX0 (k + 1) fa fd d.ps (spF K Φ d.name d.ps.length) ∧ Binds K fd d.ps [] ∧ (∀ (s : Shared) (us : List Value), us.length = d.ps.length → BindsTo s fd ⟨us, []⟩ (d.ps.zip us)) := by
  unfold DefI.ok at ok
  simp only [Bool.and_eq_true, decide_eq_true_eq] at ok
  obtain ⟨⟨⟨o1, o2⟩, o3⟩, o4⟩ := ok
  have sc := scopeB_ok o2
  obtain ⟨dn, dps, dN, down, dargs, dbody, dscope⟩ := d
  simp only at *
  have hp : ∃ as : List Arg, dargs = ⟨[], as, none, [], [], none, []⟩ ∧ as.map (·.arg) = dps := by
    unfold paramsB at o1
    split at o1
    · exact ⟨_, rfl, of_decide_eq_true o1⟩
    · cases o1
  obtain ⟨as, rfl, rfl⟩ := hp
  have ndP : (as.map (·.arg)).Nodup := by rw [← sc.pre]; exact sc.nd.sublist (List.take_sublist _ _)
  refine ⟨?_, F.bindsN fun _ _ _ _ _ _ us hl => bindN ndP hl, fun s us hl => F.bindsA (fun _ _ _ _ _ _ us hl => bindN ndP hl) s us hl⟩
  refine F.ok sc (fun vs H Q E ⟨S, ds, r, l, hl, ra, _⟩ => by rw [ra.length, hl]) (fun cdv A outer s H vs Q E hr h => ⟨tS K Φ fn.body, PSs.nox ?_, body_runs imp o4 (by rw [o3]; exact h)⟩)
  have un : (A.deeper (envOfC qual dscope s.heap.objs.size fa cdv)).units + 200 < cLine := by have := hr.un; omega
  refine body_ok (X := (cxOf CX0 P w K mg base dN qual dscope fa cdv A outer s H E).nox) (I := ⟨dN, dscope, true, fs, bs, down⟩) ⟨⟨rfl, rfl, sc.nd, sc.kind, rfl, un, fun _ _ => rfl, fun g n hg => ?_, hb⟩, PassesOwn.never⟩ 30 o5
  obtain ⟨ga, gd, gps, G, r1, r2, r3⟩ := (hf g n hg).ex
  exact ⟨k, ga, gd, gps, G, hr, r1, r2, r3⟩
/-- a row of the table: where it stands, its text, its code -/
structure Row where
  d : DefI
  fn : Fn
  bs : List Gf
def rowTab (rs : List Row) : List (Str × Fn) := rs.map fun r => (r.d.name, r.fn)
def arity (rs : List Row) : List (Str × Nat) := rs.map fun r => (r.d.name, r.d.ps.length)
/-- each row's code is right, and calls rows further down alone -/
def RowsB : List Row → Prop
  | [] => True
  | r :: rs => (r.d.ok r.fn = true ∧ r.d.code (arity rs) r.bs = some r.fn.body) ∧ RowsB rs
/-- the head's facts about the rows -/
structure RowFacts (K : PySem.W.Frag) (mg : Str → Option Value) (r : Row) : Prop where
  ex : ∃ (qual : Str) (fa : Addr) (fd : FuncData), FunD K r.d.name qual r.d.args r.d.body r.d.scope [] [] fa fd ∧ mg r.d.name = some (.ref fa)
  bs : ∀ x ∈ r.bs, GfOk mg x
theorem lookup_arity {f : Str} {n : Nat} : ∀ {rs : List Row}, (arity rs).lookup f = some n → ∃ r ∈ rs, r.d.name = f ∧ r.d.ps.length = n
  | [], h => by cases h
  | r :: rs, h => by
    unfold arity at h
    rw [List.map_cons, List.lookup_cons] at h
    cases hq : f == r.d.name with
    | true =>
      rw [hq] at h
      cases h
      exact ⟨r, List.mem_cons_self, (eqS hq).symm, rfl⟩
    | false =>
      rw [hq] at h
      obtain ⟨r', h1, h2⟩ := lookup_arity (rs := rs) h
      exact ⟨r', List.mem_cons_of_mem _ h1, h2⟩
theorem rows_known {P : Program} {w : World} {K : PySem.W.Frag} {mg : Str → Option Value} {base : Heap} {Φ : Ph} : ∀ {rs : List Row}, RowsB rs → (∀ r ∈ rs, RowFacts K mg r) → (∀ r ∈ rs, Impl Φ r.d.name r.fn) → ∀ r ∈ rs, Known P w K mg base Φ rs.length r.d.name r.d.ps.length
  | [], _, _, _, _, h => by cases h
  | r :: rs, ok, fx, im, q, hq => by
    have ih := rows_known (P := P) (w := w) (base := base) ok.2 (fun q hq => fx q (List.mem_cons_of_mem _ hq)) fun q hq => im q (List.mem_cons_of_mem _ hq)
    rcases List.mem_cons.mp hq with rfl | hq
    · have f := fx q List.mem_cons_self
      obtain ⟨qual, fa, fd, F, hm⟩ := f.ex
      obtain ⟨G, b, _⟩ := def_known (P := P) (w := w) (base := base) (k := rs.length) F hm ok.1.1 ok.1.2 (im q List.mem_cons_self) (fun g n hg => by
        obtain ⟨r', h1, rfl, rfl⟩ := lookup_arity hg
        exact ih r' h1) f.bs
      exact ⟨fa, fd, q.d.ps, G, hm, F.kp, b⟩
    · exact (ih q hq).mono (Nat.le_succ _)
end Pv

set_option Elab.async false
set_option linter.all false
set_option maxRecDepth 100000
/-! Pv10: the head by facts, for a table of rows. -/
namespace Pv
open PySem L2 PyProof.Rows
def rowDef (r : Row) : He.DefD := ⟨(r.d.name, none), r.d.name, r.d.name, r.d.args, r.d.body, r.d.scope, [], []⟩
def gfFa (p : Gf) : He.Fa := match p.2 with
  | none => .free p.1
  | some i => .int p.1 i
def rowFa (r : Row) : List He.Fa := .glo r.d.name :: r.bs.map gfFa
def tabDef (rs : List Row) : List He.DefD := rs.map rowDef
def tabFa (rs : List Row) : List He.Fa := rs.flatMap rowFa
theorem tab_facts {K : PySem.W.Frag} {h : Heap} {mg : Str → Option Value} {rs : List Row} (X : K.In h) (G : h.Ns mainGlobals mg) (c : He.SaysD (tabFa rs) (tabDef rs) K) : ∀ r ∈ rs, RowFacts K mg r := fun r hr => by
  obtain ⟨fd, F⟩ := c.defs (d := rowDef r) (List.mem_map_of_mem hr)
  have f1 : ∀ f ∈ rowFa r, f ∈ tabFa rs := fun f hf => List.mem_flatMap.mpr ⟨r, hr, hf⟩
  exact ⟨⟨_, _, fd, F, He.glo_ok X G (c.facts (f1 _ List.mem_cons_self))⟩, fun x hx => by
    have k := c.facts (f1 _ (List.mem_cons_of_mem _ (List.mem_map_of_mem hx)))
    obtain ⟨n, o⟩ := x
    cases o with
    | none => exact ⟨fun _ => He.free_ok X G k, fun i e => by cases e⟩
    | some i => exact ⟨fun e => by (cases e), fun j e => by cases e; exact He.int_ok X G k⟩⟩
theorem only_read {K : PySem.W.Frag} {H : Hp} {a : Addr} {xs : List V} (o : Only H) (h : SqL K H a xs) : ReadL K H a xs := by
  rcases h with (h | ⟨ob, h⟩) | h
  · rcases o a with e | ⟨ob, ys, e⟩
    · rw [e] at h; cases h
    · rw [e] at h; cases h
  · exact .inl ⟨ob, h⟩
  · exact .inr h
/-- the law's def over a table of rows -/
theorem law_walk {P : Program} {w : World} {K : PySem.W.Frag} {h : Heap} {mg : Str → Option Value} {fa : Addr} {n : Nat} {x : Str} {r : Row} {rs : List Row}
    (X : K.In h) (G : h.Ns mainGlobals mg) (c : He.SaysD (tabFa (r :: rs)) (tabDef (r :: rs)) K) (hfa : mg r.d.name = some (.ref fa)) (hp : r.d.ps = [x]) (ok : RowsB (r :: rs)) (tk : tableOk (rowTab (r :: rs)) = true)
    (law : ∀ ns : List Int, ns.length ≤ n → ∃ o, look (rowTab (r :: rs)) r.d.name [scr (ns.map .int)] = some (.bool true, o)) :
    ∃ (fd : FuncData) (sp : Sp), (∀ (s : Shared) (u : Value), BindsTo s fd ⟨[u], []⟩ [(x, u)]) ∧
      (∀ (H : Hp) (a : Addr) (ns : List Int), ns.length ≤ n → Only H → SqL K H a (ns.map V.int) → sp [.ref a] H (fun v _ => v = .bl true) fun _ _ _ => False) ∧
      ∀ base : Heap, K.In base → base.Ns mainGlobals mg → FnOk P w K mg base CX0 (rs.length + 1) fa fd [x] sp := by
  have fx := tab_facts X G c
  have im : ∀ q ∈ r :: rs, Impl (look (rowTab (r :: rs))) q.d.name q.fn := fun q hq => look_impl tk (List.mem_map.mpr ⟨q, hq, rfl⟩)
  have f := fx r List.mem_cons_self
  obtain ⟨qual, fa', fd, F, hm⟩ := f.ex
  have e : fa' = fa := by rw [hm] at hfa; cases hfa; rfl
  subst e
  have dk : ∀ base : Heap, _ := fun base => def_known (P := P) (w := w) (base := base) (k := rs.length) F hm ok.1.1 ok.1.2 (im r List.mem_cons_self) (fun g m hg => by
    obtain ⟨r', h1, rfl, rfl⟩ := lookup_arity hg
    exact rows_known (P := P) (w := w) (base := base) ok.2 (fun q hq => fx q (List.mem_cons_of_mem _ hq)) (fun q hq => im q (List.mem_cons_of_mem _ hq)) r' h1) f.bs
  refine ⟨fd, spF K (look (rowTab (r :: rs))) r.d.name r.d.ps.length, fun s u => ?_, fun H a ns hl hO hS => ?_, fun base _ _ => ?_⟩
  · have := (dk default).2.2 s [u] (by rw [hp]; rfl)
    rw [hp] at this
    exact this
  · obtain ⟨o, e⟩ := law ns hl
    refine ⟨fun _ => False, [scr (ns.map .int)], _, fun _ z => z.elim, by rw [hp]; rfl, .cons (.read (only_read hO hS) rfl) .nil, e, fun v H' S' g rs' => ?_⟩
    exact rs'.look.bool
  · have := (dk base).1
    rw [hp] at this ⊢
    exact this
end Pv

set_option Elab.async false
set_option linter.all false
set_option maxRecDepth 100000
/-! Pv11: exceptions: defs that raise. -/
namespace Pv
open PySem L2 PyProof.Rows
variable {X : Cx} {Φ : Ph}
theorem excO_some {d : D} {c : Str} (h : excO d = some c) : d = excD c := by
  unfold excO at h
  split at h
  · cases h; rfl
  · cases h
theorem excO_excD (c : Str) : excO (excD c) = some c := rfl
section
variable {K : PySem.W.Frag} {H H1 H2 H' : Hp} {S S1 S2 S' : Ad} {O O1 : Ad}
theorem RpK.noExc {kvs : List (List Key × V)} {c : Str} (r : RpK K H S kvs [(PyData.bool false, PyData.str c)]) : False := by
  generalize e : [(PyData.bool false, PyData.str c)] = ps at r
  cases r with
  | nil => cases e
  | cons _ _ => exact nomatch (congrArg (fun l : List (D × D) => l.head?.map (·.1)) e)
theorem RpI.noExc {kvs : List (Key × V)} {c : Str} (r : RpI K H S kvs [(PyData.bool false, PyData.str c)]) : False := by
  generalize e : [(PyData.bool false, PyData.str c)] = ps at r
  cases r with
  | nil =>
    have := congrArg (fun l : List (D × D) => l.head?.map (·.1)) e
    cases this
  | cons _ _ => exact nomatch (congrArg (fun l : List (D × D) => l.head?.map (·.1)) e)
theorem Ct.noExc {a : Addr} {c : Str} (h : Ct K H S a (excD c)) : False := by
  unfold excD at h
  cases h with
  | dct _ r => exact r.noExc
  | dci _ r => exact r.noExc
theorem Rp.noExc {v : V} {c : Str} (h : Rp K H S v (excD c)) : False := by
  generalize e : excD c = d at h
  cases h with
  | cont _ ct => subst e; exact ct.noExc
  | read _ _ =>
    unfold excD Pv.scr at e
    injection e with e1
    injection e1 with e2 _
    injection e2 with e3 _
    cases e3
  | _ => cases e
theorem Rv.noExc {w : Bool} {v : V} {c : Str} (h : Rv K O H H' S' w v (excD c)) : False := by
  cases w with
  | false => exact Rp.noExc (show Rp K H' S' v (excD c) from h)
  | true =>
    obtain ⟨a, _, _, _, ct⟩ := h
    exact ct.noExc
/-! ### outcomes with exceptions -/
def outX : Out → Option Str
  | .ret d _ => excO d
  | _ => none
def PostL (K : PySem.W.Frag) (W : Str → Hp → Prop) (E : Ends) (O : Ad) (H : Hp) (S : Ad) (o : Out) : Prop :=
  (outX o = none → Post K E O H S o) ∧ ∀ c, outX o = some c → ∀ H' S', Gs O H S H' S' → (∀ a, S' a → H' a ≠ none) → W c H'
def tSL (K : PySem.W.Frag) (W : Str → Hp → Prop) (Φ : Ph) (c : C) : TS := fun E σ H => ∃ S ρ o, Rep K σ H S ρ ∧ exec Φ c ρ = some o ∧ PostL K W E (ownA σ ρ) H S o
theorem tSL_tS {W : Str → Hp → Prop} {c : C} {E : Ends} {σ : L2.St} (h : tSL K W Φ c E σ H) : tS K Φ c E σ H := by
  obtain ⟨S, ρ, o, R, e, p⟩ := h
  refine ⟨S, ρ, o, R, e, ?_⟩
  cases hx : outX o with
  | none => exact p.1 hx
  | some x =>
    cases o with
    | next _ => cases hx
    | brk _ => cases hx
    | ret d w =>
      have : d = excD x := excO_some hx
      subst this
      exact fun v H' S' g l rv => rv.noExc.elim
theorem PostL.after {W : Str → Hp → Prop} {E : Ends} {o : Out} (p : PostL K W E O H S o) (g : Gs O H S H1 S1) (hO : ∀ x, O1 x → O x ∨ H x = none) : PostL K W E O1 H1 S1 o :=
  ⟨fun h => (p.1 h).after g hO, fun c h H' S' g' l => p.2 c h H' S' (g.trans hO g') l⟩
end
theorem sl_of {W : Str → Hp → Prop} {s : Stmt} {c : C} (h : PS X s (tS X.K Φ c)) : PS X s (tSL X.K W Φ c) := ps_w h fun _ _ _ => tSL_tS
theorem sls_of {W : Str → Hp → Prop} {s : List Stmt} {c : C} (h : PSs X s (tS X.K Φ c)) : PSs X s (tSL X.K W Φ c) := pss_w h fun _ _ _ => tSL_tS
section
variable {W : Str → Hp → Prop}
theorem sl_cons {s : Stmt} {r : List Stmt} {a b : C} (ha : PS X s (tSL X.K W Φ a)) (hb : PSs X r (tSL X.K W Φ b)) : PSs X (s :: r) (tSL X.K W Φ (.cons a b)) := pss_w (pss_cons ha hb) fun E σ H ⟨S, ρ, o, R, e, p⟩ => by
  simp only [exec, thenO] at e
  obtain ⟨o1, e1, e2⟩ := Option.bind_eq_some_iff.mp e
  refine ⟨S, ρ, o1, R, e1, ?_⟩
  cases o1 with
  | next ρ1 =>
    simp only at e2
    exact ⟨fun _ σ' H' S' g R' h => ⟨S', ρ1, o, R', e2, p.after g h⟩, fun c h => by cases h⟩
  | brk ρ1 => cases e2; exact ⟨fun _ => p.1 rfl, fun c h => by cases h⟩
  | ret d w => cases e2; exact ⟨fun h => p.1 h, p.2⟩
theorem sl_if {F : List Nat} {t : Expr} {a b : List Stmt} {cc ca cb : C} {pos : Pos} (hc : PT X t (tT X.K Φ cc)) (ha : PSs X a (tSL X.K W Φ ca)) (hb : PSs X b (tSL X.K W Φ cb)) : PS X (.If t a b pos) (tSL X.K W Φ (.iff F cc ca cb)) :=
  ps_w (ps_if hc ha hb) fun E σ H ⟨S, ρ, o, R, e, p⟩ => by
    simp only [exec] at e
    obtain ⟨r, e1, e2⟩ := Option.bind_eq_some_iff.mp e
    obtain ⟨k, e3, e4⟩ := Option.bind_eq_some_iff.mp e2
    refine tT_aft R e1 e3 fun H1 g R1 => ?_
    cases k with
    | true =>
      rw [if_pos rfl]
      simp only [if_true] at e4
      exact ⟨S, ρ, o, R1, e4, p.after g.gs fun x h => .inl h⟩
    | false =>
      rw [if_neg Bool.false_ne_true]
      simp only [Bool.false_eq_true, if_false] at e4
      exact ⟨S, ρ, o, R1, e4, p.after g.gs fun x h => .inl h⟩
theorem ForInv.postL {K : PySem.W.Frag} {E : Ends} {σ σ4 : L2.St} {ρ ρ3 : Rho} {H H1 H3 : Hp} {S S1 S2 : Ad} {o o1 : Out} {N C : L2.St → Hp → Prop} {nx : Rho → Prop} (l : ForInv K σ ρ H S H1 S1 σ4 H3 S2 ρ3) (live : ∀ a, S1 a → H1 a ≠ none) (p : PostL K W E (ownA σ ρ) H S o)
    (h : match o1 with
      | .next ρ' => nx ρ'
      | .brk ρ' => o = .next ρ'
      | .ret d w => o = .ret d w)
    (hN : ∀ ρ' σ' H' S', nx ρ' → ForInv K σ ρ H S H1 S1 σ' H' S' ρ' → N σ' H') : PostL K W { E with nx := N, ct := C, bk := E.nx } (ownA σ4 ρ3) H3 S2 o1 := by
  have ow := l.2.2.2.2
  cases o1 with
  | next ρ' => exact ⟨fun _ σ' H' S' g5 R' ho => hN ρ' σ' H' S' h (l.turn live g5 R' ho), fun c h => by cases h⟩
  | brk ρ' =>
    subst h
    exact ⟨fun _ σ' H' S' g5 R' ho => p.1 rfl σ' H' S' (l.1.trans (fun x h => (ow x h).1) g5) R' fun a ha => (ho a ha).elim (fun q => (ow a q).1) fun q => .inr (l.1.back q), fun c h => by cases h⟩
  | ret d w =>
    subst h
    refine ⟨fun hx v H' S' g5 lv rv => p.1 hx v H' S' (l.1.trans (fun x h => (ow x h).1) g5) lv ?_, fun c hc H' S' g5 lv => p.2 c hc H' S' (l.1.trans (fun x h => (ow x h).1) g5) lv⟩
    cases w with
    | false => exact rv
    | true =>
      obtain ⟨a, e, h, r⟩ := rv
      exact ⟨a, e, h.elim (fun q => (ow a q).1) fun q => .inr (l.1.back q), r⟩
theorem sl_for {F : List Nat} {tg iter : Expr} {body : List Stmt} {t : Tg} {k : Ik} {ci cb : C} {pos : Pos} (hs : PS X (.For tg iter body [] pos) (tFor (tI X.K Φ k ci) (tG X.K t) (tSL X.K W Φ cb))) : PS X (.For tg iter body [] pos) (tSL X.K W Φ (.for_ t k F ci cb)) :=
  ps_w hs fun E σ H ⟨S, ρ, o, R, e, p⟩ => by
    simp only [exec] at e
    obtain ⟨ds, e1, e2⟩ := Option.bind_eq_some_iff.mp e
    obtain ⟨xs, e3, e4⟩ := Option.bind_eq_some_iff.mp e2
    obtain ⟨S0, s1, s2, R0⟩ := R.frz F
    have g0 : Gs (ownA σ ρ) H S H S0 := ⟨fun _ _ h _ => h, fun _ h => h, s1, fun a s => (s2 a s).elim .inl fun h => .inr (.inl h)⟩
    refine ⟨S0, _, ds, xs, R0, e1, e3, fun J H1 S1 g1 w => ?_⟩
    have g01 : Gs (ownA σ ρ) H S H1 S1 := g0.trans (O1 := fun _ => False) (fun x h => h.elim) g1.gs
    refine for_it w (fun i σ2 H2 => ∃ S2 ρ2, ForInv X.K σ ρ H S H1 S1 σ2 H2 S2 ρ2 ∧ forGo (bindT t) (fun ρ => exec Φ cb ρ) (xs.drop i) ρ2 = some o) ?_ ?_ ?_ ?_
    · exact ⟨S1, _, ForInv.start g01 (R0.grow g1) fun a h => ownA_frz h, by simpa using e4⟩
    · rintro i σ2 H2 _ ⟨S2, ρ2, l, ef⟩
      exact ⟨S2, l.2.1, l.2.2.2.1.live⟩
    · rintro i x σ2 H2 H3 hi ⟨S2, ρ2, l, ef⟩ y
      obtain ⟨d, h1, g3, r3⟩ := y S2 l.2.1 l.2.2.2.1.live
      obtain ⟨ρ3, o1, b1, b2, b3⟩ := forGo_drop ef h1
      refine tG_own (l.2.2.2.1.grow g3) r3 b1 fun σ4 R4 ow4 => ?_
      exact ⟨S2, ρ3, o1, R4, b2, (l.item g3 R4 ow4).postL g1.live p (nx := fun ρ' => forGo (bindT t) (fun ρ => exec Φ cb ρ) (xs.drop (i + 1)) ρ' = some o) b3 fun ρ' σ' H' S' hn l' => ⟨S', ρ', l', hn⟩⟩
    · rintro σ2 H2 ⟨S2, ρ2, l, ef⟩
      rw [List.drop_length] at ef
      cases ef
      exact p.1 rfl σ2 H2 S2 l.1 l.2.2.2.1 fun a h => (l.2.2.2.2 a h).1
end
/-! ### raise -/
/-- what a wish over classes' names is -/
def WXof (K : PySem.W.Frag) (W : Str → Hp → Prop) : WX := fun cls d _ H => ∃ c, cls = .ref (He.ga K c) ∧ d = none ∧ W c H
/-- an own error that may be made with a text -/
structure ExcK (X : Cx) (x : Str) : Prop where
  q : PySem.W.excIn X.K (He.ga X.K x) He.veBase "ValueError.__new__" = true
  gC : X.mg x = some (.ref (He.ga X.K x))
  kC : PySem.W.keepIn X.K (.ref (He.ga X.K x)) = true
  sC : PySem.W.subIn X.K (.ref (He.ga X.K x)) (.type "BaseException") = some true
  tC : PySem.W.typeIn X.K (.ref (He.ga X.K x)) = some (.type "type")
theorem sl_raise {W : Str → Hp → Prop} {x m : Str} {j : Nat} {p p2 pos pos2 : Pos} (hc : X.calm = true) (tk : Takes X (WXof X.K W)) (k : ExcK X x) (hg : Gl X x) (hdb : (x == ("__debug__" : Str)) = false) :
    PS X (.Raise (some (.Call (.Name x p) [.Constant (.str m) j p2] [] pos)) none pos2) (tSL X.K W Φ (.ret [] (.cst (excD x)))) :=
  ps_w (ps_raise hc tk (pmk_own PySem.F.excBase_ValueError k.q k.gC k.kC (raises_own k.sC k.tC) hg hdb)) fun E σ H ⟨S, ρ, o, R, e, p⟩ => by
    cases e
    exact ⟨x, rfl, rfl, p.2 x rfl H S Gs.refl R.live⟩
/-! ### calls of defs that raise -/
/-- a def does what Φ says under the key g; errors by their classes' names -/
def spX (K : PySem.W.Frag) (Φ : Ph) (g : Str) (n : Nat) : Sp := fun vs H Q E => ∃ S ds r, (∀ a, S a → H a ≠ none) ∧ ds.length = n ∧ RpAll K H S vs ds ∧ Φ g ds = some r ∧
  (excO r.1 = none → Fin K H S (r.1, if r.2 then .f else .z) Q) ∧ ∀ c, excO r.1 = some c → ∀ H' S', Gr H S H' S' → E (.ref (He.ga K c)) none H'
structure CallX (X : Cx) (Φ : Ph) (f g : Str) (n : Nat) : Prop where
  ex : ∃ (k : Nat) (fa : Addr) (fd : FuncData) (ps : List Str), FnOk X.prog X.w X.K X.mg X.base (L2.CX X.prog X.w) k fa fd ps (spX X.K Φ g n) ∧ Room k X.A ∧ X.mg f = some (.ref fa) ∧ PySem.W.keepIn X.K (.ref fa) = true ∧ Binds X.K fd ps []
theorem pe_callX {Wx : WX} {f g : Str} {n : Nat} {e0 : Expr} {es : List Expr} {p pos : Pos} {ta : TA} (c : CallX X Φ f g n) (tk : Takes X Wx) (hg : Gl X f) (hdb : (f == ("__debug__" : Str)) = false) (ha : PA X (e0 :: es) ta)
    (he : starEach (e0 :: es) X.env = (false, eval e0 X.env) :: starEach es X.env) (hpl : (backTo pos (starEach es X.env)).any (·.1) = false) :
    PE X (.Call (.Name f p) (e0 :: es) [] pos) (tCallS (spX X.K Φ g n) (WE Wx) ta) := by
  obtain ⟨k, fa, fd, ps, F, hr, hm, hk, hb⟩ := c.ex
  exact pe_callS F hr hg hm hk hb (fun σ => passAt tk σ) ha hdb he hpl
theorem frz_gs {K : PySem.W.Frag} {σ : L2.St} {H : Hp} {S : Ad} {ρ : Rho} (F : List Nat) (R : Rep K σ H S ρ) : ∃ S0, Rep K σ H S0 (frz F ρ) ∧ Gs (ownA σ ρ) H S H S0 := by
  obtain ⟨S0, s1, s2, R0⟩ := R.frz F
  exact ⟨S0, R0, fun _ _ h _ => h, fun _ h => h, s1, fun a s => (s2 a s).elim .inl fun h => .inr (.inl h)⟩
theorem Gs.gr2 {O : Ad} {H H' : Hp} {S S0 S' : Ad} (g : Gs O H S H S0) (g1 : Gr H S0 H' S') : Gs O H S H' S' := g.trans (O1 := fun _ => False) (fun x h => h.elim) g1.gs
theorem sl_retX {W : Str → Hp → Prop} {F : List Nat} {f g : Str} {n : Nat} {e0 : Expr} {es : List Expr} {ca : C} {p pos pos2 : Pos} (c : CallX X Φ f g n) (tk : Takes X (WXof X.K W)) (hn : argsLen ca = n) (hg : Gl X f) (hdb : (f == ("__debug__" : Str)) = false) (ha : PA X (e0 :: es) (tAs X.K Φ ca))
    (he : starEach (e0 :: es) X.env = (false, eval e0 X.env) :: starEach es X.env) (hpl : (backTo pos (starEach es X.env)).any (·.1) = false) :
    PS X (.Return (some (.Call (.Name f p) (e0 :: es) [] pos)) pos2) (tSL X.K W Φ (.ret F (.call g ca))) :=
  ps_w (ps_ret (pe_callX c tk hg hdb ha he hpl)) fun E σ H ⟨S, ρ, o, R, e, q⟩ => by
    simp only [exec, ev] at e
    obtain ⟨r, e0, e⟩ := Option.bind_eq_some_iff.mp e
    obtain ⟨ds, e1, e0⟩ := Option.bind_eq_some_iff.mp e0
    obtain ⟨r', e2, e3⟩ := Option.map_eq_some_iff.mp e0
    subst e3
    obtain ⟨d, w⟩ := r'
    have eo : o = .ret d w := by
      cases w <;> (cases e; rfl)
    subst eo
    obtain ⟨S0, R0, g0⟩ := frz_gs F R
    refine ⟨S0, _, ds, R0, e1, fun vs H1 S1 g1 r1 => ⟨S1, ds, (d, w), g1.live, by rw [evs_len e1, hn], r1, e2, fun hx v H' S' g2 rs => ?_, fun x hx H' S' g2 => ?_⟩⟩
    · refine q.1 hx v H' S' (g0.gr2 (g1.trans g2)) g2.live ?_
      cases w with
      | false => exact rs
      | true =>
        obtain ⟨a, ea, h0, ns, ct⟩ := rs
        exact ⟨a, ea, .inr (g1.fresh h0), ns, ct⟩
    · exact ⟨x, rfl, rfl, q.2 x hx H' S' (g0.gr2 (g1.trans g2)) g2.live⟩
/-- a raising def's body does what the code says -/
theorem body_runsX {K : PySem.W.Frag} {Φ : Ph} {g : Str} {fn : Fn} {N : List Str} {vs : List V} {H : Hp} {Q : VK} {E : XK} (imp : Impl Φ g fn) (hN : fn.ns = N.length) (h : spX K Φ g fn.np vs H Q E) :
    tSL K (fun c H' => E (.ref (He.ga K c)) none H') Φ fn.body { nx := fun _ H' => Q .non H', rt := Q } (L2.start N vs) H := by
  obtain ⟨S, ds, r, l, hl, ra, e, q, qx⟩ := h
  rw [imp ds] at e
  unfold evF at e
  rw [if_pos hl] at e
  obtain ⟨o, e1, e2⟩ := Option.bind_eq_some_iff.mp e
  have R := rep_start (N := N) l ra hl hN
  refine ⟨S, init fn ds, o, R, e1, ?_⟩
  have no : ∀ a, ¬ ownA (L2.start N vs) (init fn ds) a := fun a ⟨i, d, h1, h2⟩ => by cases (init_get h1).2
  cases o with
  | next ρ' =>
    cases e2
    exact ⟨fun _ σ' H' S' g R' _ => q rfl .non H' S' (g.gr no R'.live) .non, fun c h => by cases h⟩
  | brk ρ' => cases e2
  | ret d w =>
    cases e2
    refine ⟨fun hx v H' S' g lv rv => q hx v H' S' (g.gr no lv) ?_, fun c hc H' S' g lv => qx c hc H' S' (g.gr no lv)⟩
    cases w with
    | false => exact rv
    | true =>
      obtain ⟨a, e, h, ns, c⟩ := rv
      exact ⟨a, e, h.elim (fun z => absurd z (no a)) fun z => z, ns, c⟩
end Pv

set_option Elab.async false
set_option linter.all false
set_option maxRecDepth 100000
/-! Pv12: exceptions: except suites, defs that tell of an exception. -/
namespace Pv
open PySem L2 PyProof.Rows
variable {X : Cx} {Φ : Ph}
/-- a reading with what is known of the slots -/
def tZ (Z : L2.St → Prop) (K : PySem.W.Frag) (Φ : Ph) (c : C) : TE := fun σ H Q => Z σ ∧ tE K Φ c σ H Q
def tZs (Z : L2.St → Prop) (K : PySem.W.Frag) (Φ : Ph) (c : C) : TA := fun σ H Q => Z σ ∧ tAs K Φ c σ H Q
section
variable {Z : L2.St → Prop} {a b : Expr} {ca cb : C} {pos : Pos}
theorem zx_of {e : Expr} {c : C} (h : PE X e (tE X.K Φ c)) : PE X e (tZ Z X.K Φ c) := pe_w h fun _ _ _ q => q.2
theorem zx_bin {o : Op2} (ha : PE X a (tZ Z X.K Φ ca)) (hb : PE X b (tZ Z X.K Φ cb)) : PE X (.BinOp a (toOp o) b pos) (tZ Z X.K Φ (.bin o ca cb)) := pe_w (pe_op (op2_ok o) ha hb) fun σ H Q ⟨z, S, ρ, r, R, e, q⟩ => by
  simp only [ev] at e
  obtain ⟨x, e1, e⟩ := Option.bind_eq_some_iff.mp e
  obtain ⟨y, e2, e⟩ := Option.bind_eq_some_iff.mp e
  exact ⟨z, tE_of R e1 fun v H1 S1 g1 r1 R1 => ⟨z, tE_of R1 e2 fun w H2 S2 g2 r2 R2 => ⟨S2, x.1, y.1, r, g2.live, (r1.grow g2).look, r2.look, e, fun z H3 S3 g3 r3 => q z H3 S3 ((g1.trans g2).trans g3) (by
    obtain ⟨d, os⟩ := r
    cases os with
    | z => exact r3
    | f =>
      obtain ⟨p, e1, e2, e3⟩ := r3
      exact ⟨p, e1, (g1.trans g2).fresh e2, e3⟩
    | b => exact r3)⟩⟩⟩
theorem zx_not (ha : PE X a (tZ Z X.K Φ ca)) : PE X (.UnaryOp .Not a pos) (tZ Z X.K Φ (.not ca)) := pe_w (pe_not ha) fun σ H Q ⟨z, S, ρ, r, R, e, q⟩ => by
  simp only [ev] at e
  obtain ⟨x, e1, e⟩ := Option.bind_eq_some_iff.mp e
  obtain ⟨i, e2, e3⟩ := Option.map_eq_some_iff.mp e
  subst e3
  refine ⟨z, tE_of R e1 fun v H1 S1 g1 r1 R1 => ?_⟩
  have := r1.look
  rw [asB_some e2] at this
  exact ⟨i, this.bool, q _ H1 S1 g1 (.bl _)⟩
theorem zx_and {rest : List Expr} (ha : PE X a (tZ Z X.K Φ ca)) (hb : PE X (.BoolOp .And (b :: rest) pos) (tZ Z X.K Φ cb)) : PE X (.BoolOp .And (a :: b :: rest) pos) (tZ Z X.K Φ (.and ca cb)) := pe_w (pe_and ha hb) fun σ H Q ⟨z, S, ρ, r, R, e, q⟩ => by
  simp only [ev] at e
  obtain ⟨x, e1, e⟩ := Option.bind_eq_some_iff.mp e
  obtain ⟨k, e2, e⟩ := Option.bind_eq_some_iff.mp e
  refine ⟨z, tE_of R e1 fun v H1 S1 g1 r1 R1 => ?_⟩
  have := r1.look
  rw [asB_some e2] at this
  refine ⟨k, this.bool, ?_⟩
  cases k with
  | false =>
    simp only [Bool.false_eq_true, if_false] at e ⊢
    cases e
    exact q _ H1 S1 g1 (.bl false)
  | true =>
    simp only [if_true] at e ⊢
    obtain ⟨y, e3, e⟩ := Option.bind_eq_some_iff.mp e
    obtain ⟨l, e4, e5⟩ := Option.map_eq_some_iff.mp e
    subst e5
    refine ⟨z, tE_of R1 e3 fun w H2 S2 g2 r2 R2 => ?_⟩
    have := r2.look
    rw [asB_some e4] at this
    rw [this.bool]
    exact q _ H2 S2 (g1.trans g2) (.bl l)
theorem zx_or {rest : List Expr} (ha : PE X a (tZ Z X.K Φ ca)) (hb : PE X (.BoolOp .Or (b :: rest) pos) (tZ Z X.K Φ cb)) : PE X (.BoolOp .Or (a :: b :: rest) pos) (tZ Z X.K Φ (.or ca cb)) := pe_w (pe_or ha hb) fun σ H Q ⟨z, S, ρ, r, R, e, q⟩ => by
  simp only [ev] at e
  obtain ⟨x, e1, e⟩ := Option.bind_eq_some_iff.mp e
  obtain ⟨k, e2, e⟩ := Option.bind_eq_some_iff.mp e
  refine ⟨z, tE_of R e1 fun v H1 S1 g1 r1 R1 => ?_⟩
  have := r1.look
  rw [asB_some e2] at this
  refine ⟨k, this.bool, ?_⟩
  cases k with
  | true =>
    simp only [if_true] at e ⊢
    cases e
    exact q _ H1 S1 g1 (.bl true)
  | false =>
    simp only [Bool.false_eq_true, if_false] at e ⊢
    obtain ⟨y, e3, e⟩ := Option.bind_eq_some_iff.mp e
    obtain ⟨l, e4, e5⟩ := Option.map_eq_some_iff.mp e
    subst e5
    refine ⟨z, tE_of R1 e3 fun w H2 S2 g2 r2 R2 => ?_⟩
    have := r2.look
    rw [asB_some e4] at this
    rw [this.bool]
    exact q _ H2 S2 (g1.trans g2) (.bl l)
theorem zx_nil : PA X [] (tZs Z X.K Φ .nil) := pa_w sa_nil fun _ _ _ q => q.2
theorem zx_cons {es : List Expr} (ha : PE X a (tZ Z X.K Φ ca)) (hb : PA X es (tZs Z X.K Φ cb)) (hs : starEach (a :: es) X.env = (false, eval a X.env) :: starEach es X.env) : PA X (a :: es) (tZs Z X.K Φ (.cons ca cb)) := pa_w (pa_cons ha hb hs) fun σ H Q ⟨z, S, ρ, ds, R, e, q⟩ => by
  simp only [evs] at e
  obtain ⟨d, e1, e⟩ := Option.bind_eq_some_iff.mp e
  obtain ⟨x, e1, e2⟩ := Option.bind_eq_some_iff.mp e1
  obtain ⟨rs, e3, e4⟩ := Option.map_eq_some_iff.mp e
  subst e4
  refine ⟨z, tE_of R e1 fun v H1 S1 g1 r1 _ => ?_⟩
  obtain ⟨S2, g2, s2, r2⟩ := r1.take g1 e2
  exact ⟨z, S2, ρ, rs, R.grow g2, e3, fun vs H3 S3 g3 r3 => q _ H3 S3 (g2.trans g3) (.cons (r2.keep g3.kp _ _) r3)⟩
theorem zx_tup {es : List Expr} {k : Nat} (hn : argsLen ca ≤ 1000) (ha : PA X es (tZs Z X.K Φ ca)) : PE X (.Tuple es k pos) (tZ Z X.K Φ (.tup ca)) := pe_w (pe_tup ha) fun σ H Q ⟨z, S, ρ, r, R, e, q⟩ => by
  simp only [ev] at e
  obtain ⟨ds, e1, e2⟩ := Option.map_eq_some_iff.mp e
  subst e2
  refine ⟨z, S, ρ, ds, R, e1, fun vs H1 S1 g1 r1 => ⟨?_, fun p hp => ?_⟩⟩
  · rw [r1.length, evs_len e1, sizeLine_eq]; omega
  · have g2 : Gr H1 S1 (upd H1 p (.tup vs)) S1 := Gr.new1 g1.live hp
    exact q _ _ S1 (g1.trans g2) (.tup upd_same (r1.keep g2.kp _ _))
theorem zx_lst {es : List Expr} (hn : argsLen ca ≤ 1000) (ha : PA X es (tZs Z X.K Φ ca)) : PE X (.List es pos) (tZ Z X.K Φ (.lst ca)) := pe_w (pe_lst ha) fun σ H Q ⟨z, S, ρ, r, R, e, q⟩ => by
  simp only [ev] at e
  obtain ⟨ds, e1, e2⟩ := Option.map_eq_some_iff.mp e
  subst e2
  refine ⟨z, S, ρ, ds, R, e1, fun vs H1 S1 g1 r1 => ⟨?_, fun p hp => ?_⟩⟩
  · rw [r1.length, evs_len e1, sizeLine_eq]; omega
  · have g2 : Gr H1 S1 (upd H1 p (.lst vs)) S1 := Gr.new1 g1.live hp
    exact q _ _ S1 (g1.trans g2) ⟨p, rfl, g1.fresh hp, fun s => g1.live p s hp, .lst upd_same (r1.keep g2.kp _ _)⟩
end
/-! ### statements of a suite -/
section
variable {K : PySem.W.Frag} {σ : L2.St} {H H1 : Hp} {S S1 : Ad} {ρ : Rho}
theorem asg_core {i : Nat} {ρ1 : Rho} {r : D × Os} {p : D × Bool} {v : V} (R : Rep K σ H S ρ) (R1 : Rep K σ H1 S1 ρ1) (hO : ∀ a, ownA σ ρ1 a → ownA σ ρ a) (rs : Rs K H H1 S1 r v) (e3 : takeO r = some p) :
    Rep K (σ.set i (some v)) H1 S1 (ρ1.set i (some p)) ∧ ∀ a, ownA (σ.set i (some v)) (ρ1.set i (some p)) a → ownA σ ρ a ∨ H a = none := by
  obtain ⟨d, os⟩ := r
  cases os with
  | z =>
    cases e3
    refine ⟨R1.set i rs, fun a ha => ?_⟩
    exact .inl (hO _ (ownA_set2 R1.len ha))
  | f =>
    cases e3
    obtain ⟨a, rfl, h0, ns, ct⟩ := rs
    refine ⟨R1.setOwn i ⟨a, rfl, ns, ct⟩ fun j d' hj f1 f2 => ?_, fun b hb => ?_⟩
    · have : ownA σ ρ a := hO _ ⟨j, d', f1, f2⟩
      obtain ⟨k, d2, f3, f4⟩ := this
      obtain ⟨v, f5, f6⟩ := R.val k d2 true f3
      rw [f4] at f5; cases f5
      obtain ⟨b, e, _, c2⟩ := (show Own K H S (.ref a) d2 by simpa using f6)
      cases e
      obtain ⟨ob, hob, _⟩ := c2.there
      rw [hob] at h0; cases h0
    · obtain ⟨j, d', f1, f2⟩ := hb
      by_cases hj : i = j
      · subst hj
        have hi : i < σ.length := by
          have := (List.getElem?_eq_some_iff.mp f2).1
          simpa using this
        rw [List.getElem?_set_self hi] at f2
        cases f2
        exact .inr h0
      · rw [List.getElem?_set_ne hj] at f1 f2
        exact .inl (hO _ ⟨j, d', f1, f2⟩)
  | b => cases e3
theorem Rep.unset (i : Nat) (u : Option V) (R : Rep K σ H S ρ) : Rep K (σ.set i u) H S (ρ.set i none) := by
  have look : ∀ {j : Nat} {d : D} {o : Bool}, (ρ.set i none)[j]? = some (some (d, o)) → i ≠ j ∧ ρ[j]? = some (some (d, o)) := fun {j d o} h => by
    by_cases hj : i = j
    · subst hj
      have hi : i < ρ.length := by
        have := (List.getElem?_eq_some_iff.mp h).1
        simpa using this
      rw [List.getElem?_set_self hi] at h
      cases h
    · rw [List.getElem?_set_ne hj] at h
      exact ⟨hj, h⟩
  refine ⟨by rw [List.length_set, List.length_set]; exact R.len, fun j d o e => ?_, fun j k d d' a hjk f1 f2 f3 => ?_, R.live⟩
  · obtain ⟨h1, h2⟩ := look e
    rw [List.getElem?_set_ne h1]
    exact R.val j d o h2
  · obtain ⟨h1, h2⟩ := look f1
    obtain ⟨h3, h4⟩ := look f2
    rw [List.getElem?_set_ne h1] at f3
    rw [List.getElem?_set_ne h3]
    exact R.ap j k d d' a hjk h2 h4 f3
theorem ownA_unset {i : Nat} {u : Option V} {a : Addr} (h : ownA (σ.set i u) (ρ.set i none) a) : ownA σ ρ a := by
  obtain ⟨j, d, f1, f2⟩ := h
  by_cases hj : i = j
  · subst hj
    have hi : i < ρ.length := by
      have := (List.getElem?_eq_some_iff.mp f1).1
      simpa using this
    rw [List.getElem?_set_self hi] at f1
    cases f1
  · rw [List.getElem?_set_ne hj] at f1 f2
    exact ⟨j, d, f1, f2⟩
end
def suS (Z : L2.St → Prop) (K : PySem.W.Frag) (Φ : Ph) (c : C) : TS := fun E σ H => Z σ ∧ tS K Φ c E σ H
section
variable {Z : L2.St → Prop}
theorem zs_nil : PSs X [] (suS Z X.K Φ .nil) := pss_w ss_nil fun _ _ _ q => q.2
theorem zs_asg {i : Nat} {F : List Nat} {st : Stmt} {r : List Stmt} {ca cr : C} (hZ : ∀ σ v, Z σ → Z (σ.set i v)) (hs : PS X st (tAsg (tZ Z X.K Φ ca) (gName i))) (hr : PSs X r (suS Z X.K Φ cr)) : PSs X (st :: r) (suS Z X.K Φ (.cons (.asg i F ca) cr)) :=
  pss_w (pss_cons hs hr) fun E σ H ⟨z, S, ρ, o, R, e, p⟩ => by
    simp only [exec, thenO] at e
    obtain ⟨o1, e1, e2⟩ := Option.bind_eq_some_iff.mp e
    obtain ⟨r, e7, e3⟩ := Option.bind_eq_some_iff.mp e1
    obtain ⟨q, e8, e4⟩ := Option.map_eq_some_iff.mp e3
    subst e4
    refine ⟨z, tE_aftR R e7 fun v H1 S1 g R1 rs ex => ?_⟩
    obtain ⟨R2, ow⟩ := asg_core (i := i) R R1 (fun _ h => ownA_aftR h) rs e8
    exact ⟨hZ σ _ z, S1, _, o, R2, e2, p.after g ow⟩
theorem zs_ret {F : List Nat} {e : Expr} {c : C} {pos : Pos} (he : PE X e (tZ Z X.K Φ c)) : PSs X [.Return (some e) pos] (suS Z X.K Φ (.cons (.ret F c) .nil)) := pss_w (pss_one (ps_ret he)) fun E σ H ⟨z, h⟩ => by
  refine ret_of (F := F) (c := c) (fun Q q => ⟨z, q⟩) ?_
  obtain ⟨S, ρ, o, R, e, p⟩ := h
  simp only [exec, thenO] at e
  obtain ⟨o1, e1, e2⟩ := Option.bind_eq_some_iff.mp e
  refine ⟨S, ρ, o, R, ?_, p⟩
  rw [show exec Φ (.ret F c) ρ = some o1 from by simpa only [exec] using e1]
  cases o1 with
  | next ρ' =>
    exfalso
    obtain ⟨_, _, e3⟩ := Option.bind_eq_some_iff.mp e1
    obtain ⟨_, _, e4⟩ := Option.map_eq_some_iff.mp e3
    cases e4
  | brk ρ' => exact e2
  | ret d w => exact e2
end
/-! ### isinstance of an exception -/
theorem call_isG {X : Cx} {a D : Addr} {oe : Obj} (C : ExcC X.K D) (hp : (a, oe) ∈ X.pn) (hz : Zc (.ref D) none oe) (hf : ∃ vs, oe.data = .fields vs) : CallR X (.builtin "isinstance") (rIsE X.K D a) := by
  intro pins s σ H xs us Q I r h
  obtain ⟨c, cv, b, rfl, hcv, e, q⟩ := h
  cases r with
  | cons rx rr =>
    cases rr with
    | cons rt rr =>
      cases rr
      cases rx
      have ec := hcv _ rt
      subst ec
      obtain ⟨hget, _⟩ := I.pin (a, oe) (List.mem_append.mpr (.inl hp))
      obtain ⟨vs, hv⟩ := hf
      have J : PySem.W.InstAt s.heap a oe D none := by
        obtain ⟨oc, od, oda, osl⟩ := oe
        obtain ⟨h1, h2⟩ := hz
        dsimp only at h1 h2 hv
        subst h1 h2 hv
        exact ⟨hget, rfl, rfl, trivial⟩
      exact PySem.W.kia_one (PySem.W.handS_kitx_exc C.hg C.hk C.hs C.hd C.ha C.hn C.ht C.hm) I.kIn J e (fun z => nomatch z) fun tk => ⟨.bl b, H, I.kept (t' := tk) fun _ _ z => z, rfl, q⟩
theorem zx_isi {Z : L2.St → Prop} {a D : Addr} {ie : Nat} {b : Bool} {cv : V} {cw : Value} {e0 ty : Expr} {p pos : Pos} (hc : CallR X (.builtin "isinstance") (rIsE X.K D a)) (hZ : ∀ σ, Z σ → σ[ie]? = some (some (.ref a))) (he : PE X e0 (tVar ie)) (ht : PE X ty (tC cv)) (hcv : ∀ u, RelV cv u → u = cw)
    (hk : PySem.W.kitOne X.K (.ref D) cw = some b) (hg : Gl X "isinstance") (hm : X.mg "isinstance" = none)
    (hs : starEach [e0, ty] X.env = (false, eval e0 X.env) :: starEach [ty] X.env) (hs2 : starEach [ty] X.env = (false, eval ty X.env) :: starEach [] X.env) (hpl : (backTo pos (starEach [ty] X.env)).any (·.1) = false) :
    PE X (.Call (.Name "isinstance" p) [e0, ty] [] pos) (tZ Z X.K Φ (.cst (.bool b))) :=
  pe_w (pe_callB hc hg hm boot_isinstance (pa_cons he (pa_cons ht pa_nil hs2) hs) (by decide) (by decide) hs hpl) fun σ H Q ⟨z, S, ρ, r, R, e, q⟩ => by
    cases e
    exact ⟨.ref a, hZ σ z, cv, cw, b, rfl, hcv, hk, q _ H S (Gr.refl R.live) (.bl b)⟩
/-! ### a def that tells of an exception: its answer is a new list -/
def cstL : List D → C
  | [] => .nil
  | d :: ds => .cons (.cst d) (cstL ds)
theorem evs_cstL {Φ : Ph} {ρ : Rho} : ∀ ds : List D, evs Φ (cstL ds) ρ = some ds
  | [] => rfl
  | d :: ds => by
    show ((some d).bind fun x => (evs Φ (cstL ds) ρ).map (x :: ·)) = _
    rw [evs_cstL ds]; rfl
def FinL (K : PySem.W.Frag) (H : Hp) (ds : List D) (Q : VK) : Prop := ∃ S, (∀ a, S a → H a ≠ none) ∧ Fin K H S (.list ds, .f) Q
structure FnM (P : Program) (w : World) (K : PySem.W.Frag) (mg : Str → Option Value) (base : Heap) (k : Nat) (f : Addr) (fd : FuncData) (x cls : Str) (ds : List D) : Prop where
  run : ∀ (A : Around) (outer : List Env) (s : Shared) (H : Hp) (args : Args) (Q : VK) (E : XK) (p : Addr × Obj), L2H.RoomH k A → L2H.PinOk outer H s p → Zc (.ref (He.ga K cls)) none p.2 → (∃ vs, p.2.data = .fields vs) → Env0 P w K mg base A outer s H →
    BindsTo s fd args (([x] : List Str).zip [.ref p.1]) → FinL K H ds Q → codeAny (model P w) A (.call (.ref f) args) (CR CX0 outer P w H s Q E) s
theorem fn_ofM {P : Program} {w : World} {K : PySem.W.Frag} {mg : Str → Option Value} {base : Heap} {k : Nat} {f : Addr} {name qual : Str} {params : Arguments} {body : List Stmt} {scope : Scope} {fd : FuncData} {N : List Str} {x cls : Str} {ds : List D}
    (F : FunD K name qual params body scope [] [] f fd) (S : FnScope N [x] scope)
    (hbody : ∀ (cdv : Value) (A : Around) (outer : List Env) (s : Shared) (H : Hp) (Q : VK) (E : XK) (p : Addr × Obj), L2H.RoomH k (A.deeper (envOfC qual scope s.heap.objs.size f cdv)) → Zc (.ref (He.ga K cls)) none p.2 → (∃ vs, p.2.data = .fields vs) → FinL K H ds Q →
      ∃ t, PSs (L2H.cxH CX0 P w K mg base N qual scope f cdv A outer s H E p).nox body t ∧ t { nx := fun _ H' => Q .non H', rt := Q } (L2.start N [.ref p.1]) H) :
    FnM P w K mg base (k + 1) f fd x cls ds := by
  obtain ⟨oc, od, dV, kV, doc, pm, an, cdv, ct, osl, rfl, lk, hcd, _, _⟩ := F.ex
  refine ⟨fun A outer s H args Q E p hr hpin hz hf e0 hb hsp => ?_⟩
  have KX : K.In s.heap := e0.mod.kin.keeps fun b o e => (e0.bs b o e).1
  have lim : s.heap.NoLimit := e0.mod.nolimit.keeps fun b o e => (e0.bs b o e).1
  have hkind : ∀ y ∈ ([x] : List Str).zip [Value.ref p.1], scope.names.lookup y.1 = some .local ∨ (scope.names.lookup y.1 = some .cell ∧ ((cellsFrom (s.heap.objs.size + 1) scope.names []).lookup y.1).isSome = true) := fun ⟨n, v⟩ hy => by
    rcases S.par n (List.of_mem_zip hy).1 with q | q
    · exact .inl q
    · exact .inr ⟨q, PySem.W.cellsFrom_some _ _ _ (.inl q)⟩
  refine codeAny_call_function hr.depth (KX _ _ lk) rfl S.co S.gen rfl (PySem.W.codeRec_of KX hcd) (hb _ _ _ _ ?_)
  refine wpAny_newFunctionEnv_cells S.kind hkind fun env he s1 xx => ?_
  subst he
  refine ⟨lim.keeps xx.toInCall.keep, codeAny_func ?_⟩
  obtain ⟨t, ht, hq⟩ := hbody cdv A outer s H Q E p (hr.deeper _) hz hf hsp
  have I : Inv (L2H.cxH CX0 P w K mg base N qual scope f cdv A outer s H E p) [] (L2.start N [.ref p.1]) H s1 := L2H.inv_startH S hpin e0 rfl (.cons rfl .nil) xx
  refine wpAny_mono ((PSs.nox ht).run [] s1 (L2.start N [.ref p.1]) H _ I hq) (fun fl s' hs => ?_) fun e s' hs => hs
  have fin : ∀ {σ' : L2.St} {H' : Hp} {v : V} {u : Value}, Inv (L2H.cxH CX0 P w K mg base N qual scope f cdv A outer s H E p) [] σ' H' s' → RelV v u → Q v H' → CE outer P w H s Q u s' :=
    fun {σ' H' v u} J rv q => ⟨v, H', J.os, J.bare, J.base, J.hok, rv, q⟩
  cases fl with
  | ret u =>
    obtain ⟨v, σ', H', J, rv, q⟩ := hs
    exact fin J rv q
  | next =>
    obtain ⟨σ', H', J, q⟩ := hs
    exact fin (v := V.non) (u := Value.none) J rfl q
  | brk =>
    obtain ⟨_, _, _, q⟩ := hs
    exact False.elim q
  | cont =>
    obtain ⟨_, _, _, q⟩ := hs
    exact False.elim q
/-- how such a call stands where the exception is pinned -/
theorem pe_callM {a : Addr} {oe : Obj} {k : Nat} {f : Addr} {fd : FuncData} {x n cls : Str} {ds : List D} {e : Expr} {q pos : Pos} {ie : Nat} (F : FnM X.prog X.w X.K X.mg X.base k f fd n cls ds) (hr : L2H.RoomH k X.A) (hp : (a, oe) ∈ X.pn) (hz : Zc (.ref (He.ga X.K cls)) none oe) (hf : ∃ vs, oe.data = .fields vs)
    (hg : Gl X x) (hm : X.mg x = some (.ref f)) (hk : PySem.W.keepIn X.K (.ref f) = true) (hb : Binds X.K fd [n] []) (he : PE X e (tVar ie)) (hdb : (x == ("__debug__" : Str)) = false) (hs : notStar e = true) :
    PE X (.Call (.Name x q) [e] [] pos) (fun σ H Q => σ[ie]? = some (some (.ref a)) ∧ FinL X.K H ds Q) := by
  refine ⟨fun pins s σ H Q I h => ?_⟩
  obtain ⟨h1, h2⟩ := h
  refine wpAny_Call_Name_kw (ld_glob I hg hm ?_ hdb)
  have ha : PA X [e] (tCons (tVar ie) tNil) := pa_cons he pa_nil (star_of hs)
  refine PySem.W.callWith_K (h₀ := X.base) I.ok.mod.kin hk (thn (ha.run pos pins s σ H (fun vs H1 => vs = [V.ref a] ∧ FinL X.K H1 ds Q) I ⟨_, h1, rfl, h2⟩) fun us s1 ⟨vs, H1, I1, r, ev, q1⟩ => ⟨I1.kIn, ?_⟩) (star_of hs) rfl
  subst ev
  cases r with
  | cons ru rn =>
    cases rn
    cases ru
    have b := hb s1 [.ref a] I1.kIn rfl
    have P1 := I1.pin (a, oe) (List.mem_append_left _ hp)
    have hpin : L2H.PinOk X.stack H1 s1 (a, oe) := ⟨P1.1, P1.2.1, fun hm => (List.mem_cons.mp (I1.stkSub a hm)).elim P1.2.2.1 P1.2.2.2.1, P1.2.2.2.2⟩
    refine wpAny_call (codeAny_mono (F.run X.A X.stack s1 H1 ⟨[.ref a], []⟩ Q (fun _ _ _ => False) (a, oe) hr hpin hz hf I1.env0 b q1) fun r s' hq => ?_)
    cases r with
    | error e => exact (show False from hq).elim
    | ok fl =>
      cases fl with
      | ret u => exact I1.after hq
      | next => exact False.elim hq
      | brk => exact False.elim hq
      | cont => exact False.elim hq
end Pv

set_option Elab.async false
set_option linter.all false
set_option maxRecDepth 100000
/-! Pv13: exceptions: from the text to the code. -/
namespace Pv
open PySem L2 PyProof.Rows
variable {X : Cx} {Φ : Ph} {I : Inf}
/-- what is told of classes: those that are raised; which except clause takes which; isinstance; defs that tell of one; defs that raise -/
structure XF where
  cls : List Str
  exm : List (Str × Str)
  isa : List ((Str × Str) × Bool)
  isb : List (Str × Bool)
  tel : List ((Str × Str) × List D)
  fx : List (Str × Str × Nat)
def XF.is (xf : XF) (c y : Str) : Option Bool := (xf.isa.find? fun p => p.1.1 == c && p.1.2 == y).map (·.2)
def XF.ib (xf : XF) (c : Str) : Option Bool := (xf.isb.find? fun p => p.1 == c).map (·.2)
def XF.mks (xf : XF) (f c : Str) : Option (List D) := (xf.tel.find? fun p => p.1.1 == f && p.1.2 == c).map (·.2)
def XF.fxs (xf : XF) (f : Str) : Option (Str × Nat) := (xf.fx.find? fun p => p.1 == f).map (·.2)
def XF.em (xf : XF) (k c : Str) : Bool := xf.exm.any fun p => p.1 == k && p.2 == c
structure ClsK (K : PySem.W.Frag) (mg : Str → Option Value) (x : Str) : Prop where
  q : PySem.W.excIn K (He.ga K x) He.veBase "ValueError.__new__" = true
  gC : mg x = some (.ref (He.ga K x))
  kC : PySem.W.keepIn K (.ref (He.ga K x)) = true
  sC : PySem.W.subIn K (.ref (He.ga K x)) (.type "BaseException") = some true
  tC : PySem.W.typeIn K (.ref (He.ga K x)) = some (.type "type")
  e : ExcC K (He.ga K x)
structure XFK (K : PySem.W.Frag) (mg : Str → Option Value) (xf : XF) : Prop where
  cls : ∀ k ∈ xf.cls, ClsK K mg k
  exm : ∀ k c, xf.em k c = true → PySem.W.exmOne K (.ref (He.ga K k)) (.ref (He.ga K c)) = some true ∧ mg c = some (.ref (He.ga K c))
  isa : ∀ c y b, xf.is c y = some b → PySem.W.kitOne K (.ref (He.ga K c)) (.ref (He.ga K y)) = some b ∧ mg y = some (.ref (He.ga K y))
  isb : ∀ c b, xf.ib c = some b → PySem.W.kitOne K (.ref (He.ga K c)) (.type "ValueError") = some b ∧ mg "ValueError" = none
/-! ### expressions of a suite -/
def sxs (r : Expr → Option C) : List Expr → Option C
  | [] => some .nil
  | e :: es => if notStar e then (r e).bind fun c => (sxs r es).map fun d => .cons c d else none
def sxb (r : Expr → Option C) (op : BoolOp) : List Expr → Option C
  | [] => none
  | [e] => r e
  | e :: es => (r e).bind fun c => (sxb r op es).map fun d => match op with
    | .And => .and c d
    | .Or => .or c d
def sxIs (xf : XF) (cls nme : Str) (I : Inf) (x y : Str) : Option Bool := if x == nme && glB I.sc y && !(y == ("__debug__" : Str)) then match xf.is cls y with
    | some b => some b
    | none => if y == ("ValueError" : Str) then xf.ib cls else none
  else none
def sx (xf : XF) (cls nme : Str) (I : Inf) : Nat → Expr → Option C
  | 0, _ => none
  | n + 1, e => match e with
    | .Call (.Name f _) [.Name x _, .Name y _] [] _ => if f == ("isinstance" : Str) && I.bi f then (sxIs xf cls nme I x y).map fun b => .cst (.bool b) else none
    | .Call (.Name f _) [.Name x _] [] _ => if x == nme && glB I.sc f && !(f == ("__debug__" : Str)) then (xf.mks f cls).map fun ds => .lst (cstL ds) else none
    | .BoolOp op es _ => sxb (sx xf cls nme I n) op es
    | .UnaryOp .Not a _ => (sx xf cls nme I n a).map .not
    | .Tuple es _ _ => (sxs (sx xf cls nme I n) es).bind fun c => if argsLen c ≤ 1000 then some (.tup c) else none
    | .List es _ => (sxs (sx xf cls nme I n) es).bind fun c => if argsLen c ≤ 1000 then some (.lst c) else none
    | .Constant c _ _ => (constD c).map .cst
    | .Name x _ => (I.slot x).map .brw
    | .BinOp a .Add b _ => (sx xf cls nme I n a).bind fun ca => (sx xf cls nme I n b).map fun cb => .bin .add ca cb
    | _ => none
def MarkOk (Y : Cx) (f : Str) (a : Addr) (ds : List D) : Prop := ∀ (e : Expr) (p pos : Pos) (ie : Nat), PE Y e (tVar ie) → notStar e = true → Gl Y f → (f == ("__debug__" : Str)) = false →
  PE Y (.Call (.Name f p) [e] [] pos) (fun σ H Q => σ[ie]? = some (some (V.ref a)) ∧ FinL Y.K H ds Q)
/-- where a suite stands: it holds an exception of the class cls at a -/
structure CxZ (Y : Cx) (I : Inf) (xf : XF) (cls : Str) (a : Addr) : Prop where
  N : Y.N = I.N
  sc : Y.env.scope = I.sc
  nd : Y.N.Nodup
  fn : I.infn = true → ∀ x, Y.fn x = true
  isi : CallR Y (.builtin "isinstance") (rIsE Y.K (He.ga Y.K cls) a)
  k : XFK Y.K Y.mg xf
  bi : ∀ f, I.bs.contains (f, none) = true → Y.mg f = none
  tel : ∀ f ds, xf.mks f cls = some ds → MarkOk Y f a ds
abbrev zAt (ie : Nat) (a : Addr) : L2.St → Prop := fun σ => σ[ie]? = some (some (V.ref a))
section
variable {Y : Cx} {xf : XF} {cls nme : Str} {a : Addr} {ie : Nat}
theorem ix_okZ (y : CxZ Y I xf cls a) {n : Str} {i : Nat} (h : I.ix n = some i) : Y.N[i]? = some n := by
  unfold Inf.ix at h
  rw [y.N]
  obtain ⟨h1, h2, _⟩ := List.findIdx?_eq_some_iff_getElem.mp h
  rw [List.getElem?_eq_getElem h1]
  rw [beq_iff_eq.mp h2]
theorem slot_okZ (y : CxZ Y I xf cls a) {n : Str} {i : Nat} {pos : Pos} (h : I.slot n = some i) : PE Y (.Name n pos) (tVar i) := by
  unfold Inf.slot at h
  split at h
  · rename_i hc
    simp only [Bool.and_eq_true, Bool.not_eq_true'] at hc
    refine pe_var (ix_okZ y h) ?_ hc.2.1 hc.2.2
    have hv := hc.1
    unfold visB at hv
    unfold Vis
    rw [y.sc]
    split at hv
    · rename_i e; exact .inl e
    · rename_i e; exact .inr (.inl e)
    · rename_i e; exact .inr (.inr e)
    · cases hv
  · cases h
theorem loc_okZ (y : CxZ Y I xf cls a) {n : Str} {i : Nat} (h : I.loc n = some i) : Y.N[i]? = some n ∧ L2.Loc Y.env.scope n ∧ (Y.fn n = true ∨ Y.env.scope.names.lookup n = some .local) := by
  unfold Inf.loc at h
  unfold L2.Loc
  rw [y.sc]
  split at h
  · rename_i e
    exact ⟨ix_okZ y h, .inl e, .inr e⟩
  · rename_i e
    split at h
    · rename_i hf
      exact ⟨ix_okZ y h, .inr e, .inl (y.fn hf n)⟩
    · cases h
  · cases h
theorem gl_okZ (y : CxZ Y I xf cls a) {n : Str} (h : glB I.sc n = true) : Gl Y n := by
  unfold glB at h
  unfold Gl Env.kindOf
  rw [y.sc]
  exact beq_iff_eq.mp h
theorem sxs_ok {r : Expr → Option C} (hr : ∀ e c, r e = some c → PE Y e (tZ (zAt ie a) Y.K Φ c)) : ∀ {es : List Expr} {c : C}, sxs r es = some c → PA Y es (tZs (zAt ie a) Y.K Φ c)
  | [], _, h => by cases h; exact zx_nil
  | e :: es, c, h => by
    unfold sxs at h
    split at h
    · rename_i hn
      obtain ⟨ca, h1, h⟩ := Option.bind_eq_some_iff.mp h
      obtain ⟨cs, h2, h3⟩ := Option.map_eq_some_iff.mp h
      subst h3
      exact zx_cons (hr _ _ h1) (sxs_ok hr h2) (star_of hn)
    · cases h
theorem sxb_ok {r : Expr → Option C} (hr : ∀ e c, r e = some c → PE Y e (tZ (zAt ie a) Y.K Φ c)) {op : BoolOp} {pos : Pos} : ∀ {es : List Expr} {c : C}, sxb r op es = some c → PE Y (.BoolOp op es pos) (tZ (zAt ie a) Y.K Φ c)
  | [], _, h => by cases h
  | [e], c, h => pe_one (hr _ _ h)
  | e :: e2 :: es, c, h => by
    unfold sxb at h
    obtain ⟨ca, h1, h⟩ := Option.bind_eq_some_iff.mp h
    obtain ⟨cs, h2, h3⟩ := Option.map_eq_some_iff.mp h
    subst h3
    have ih := sxb_ok hr (op := op) (pos := pos) h2
    cases op with
    | And => exact zx_and (hr _ _ h1) ih
    | Or => exact zx_or (hr _ _ h1) ih
theorem const_okZ {k : Const} {j : Nat} {pos : Pos} {d : D} (h : constD k = some d) : PE Y (.Constant k j pos) (tE Y.K Φ (.cst d)) := by
  cases k with
  | none => cases h; exact se_cst pe_non fun _ _ _ => .non
  | bool b => cases h; exact se_cst pe_bl fun _ _ _ => .bl b
  | int i => cases h; exact se_cst pe_int fun _ _ _ => .int i
  | str z => cases h; exact se_cst pe_str fun _ _ _ => .str z
  | _ => cases h
theorem sx_ok (y : CxZ Y I xf cls a) (hie : I.slot nme = some ie) : ∀ (n : Nat) (e : Expr) (c : C), sx xf cls nme I n e = some c → PE Y e (tZ (zAt ie a) Y.K Φ c)
  | 0, _, _, h => by cases h
  | n + 1, e, c, h => by
    have ih := sx_ok y hie n
    unfold sx at h
    split at h
    · rename_i f p x px yy py pos
      split at h
      · rename_i hf
        rw [Bool.and_eq_true] at hf
        cases eqS hf.1
        have hb := hf.2
        unfold Inf.bi at hb
        rw [Bool.and_eq_true] at hb
        obtain ⟨b, h1, h2⟩ := Option.map_eq_some_iff.mp h
        subst h2
        unfold sxIs at h1
        split at h1
        · rename_i hc
          simp only [Bool.and_eq_true, Bool.not_eq_true'] at hc
          obtain ⟨⟨c1, c2⟩, c3⟩ := hc
          cases eqS c1
          have gy := gl_okZ y c2
          split at h1
          · rename_i b' hb'
            cases h1
            obtain ⟨k1, k2⟩ := y.k.isa _ _ _ hb'
            exact zx_isi y.isi (fun _ z => z) (slot_okZ y hie) (pe_glob (v := .ref (He.ga Y.K yy)) gy k2 rfl c3) (fun u r => r) k1 (gl_okZ y hb.1) (y.bi _ hb.2) rfl rfl rfl
          · split at h1
            · rename_i hv
              cases eqS hv
              obtain ⟨k1, k2⟩ := y.k.isb _ _ h1
              exact zx_isi y.isi (fun _ z => z) (slot_okZ y hie) (pe_bltn (v := .ty "ValueError") (u := .type "ValueError") gy k2 (by decide +kernel) rfl (by decide) (by decide)) (fun u r => r) k1 (gl_okZ y hb.1) (y.bi _ hb.2) rfl rfl rfl
            · cases h1
        · cases h1
      · cases h
    · rename_i f p x px pos
      split at h
      · rename_i hc
        simp only [Bool.and_eq_true, Bool.not_eq_true'] at hc
        obtain ⟨⟨c1, c2⟩, c3⟩ := hc
        cases eqS c1
        obtain ⟨ds, h1, h2⟩ := Option.map_eq_some_iff.mp h
        subst h2
        refine pe_w (y.tel f ds h1 _ p pos ie (slot_okZ y hie) rfl (gl_okZ y c2) c3) fun σ H Q ⟨z, S, ρ, r, R, e, q⟩ => ?_
        simp only [ev] at e
        rw [evs_cstL] at e
        cases e
        exact ⟨z, S, R.live, fun v H' S' g rs => q v H' S' g rs⟩
      · cases h
    · exact sxb_ok ih h
    · obtain ⟨ca, h1, h2⟩ := Option.map_eq_some_iff.mp h
      subst h2
      exact zx_not (ih _ _ h1)
    · obtain ⟨ca, h1, h⟩ := Option.bind_eq_some_iff.mp h
      split at h
      · rename_i hl
        cases h
        exact zx_tup hl (sxs_ok ih h1)
      · cases h
    · obtain ⟨ca, h1, h⟩ := Option.bind_eq_some_iff.mp h
      split at h
      · rename_i hl
        cases h
        exact zx_lst hl (sxs_ok ih h1)
      · cases h
    · obtain ⟨d, h1, h2⟩ := Option.map_eq_some_iff.mp h
      subst h2
      exact zx_of (const_okZ h1)
    · obtain ⟨i, h1, h2⟩ := Option.map_eq_some_iff.mp h
      subst h2
      exact zx_of (se_brw (slot_okZ y h1))
    · obtain ⟨ca, h1, h⟩ := Option.bind_eq_some_iff.mp h
      obtain ⟨cb, h2, h3⟩ := Option.map_eq_some_iff.mp h
      subst h3
      exact zx_bin (o := .add) (ih _ _ h1) (ih _ _ h2)
    · cases h
end
/-- a suite: assignments, a return at the end -/
def sxB (xf : XF) (cls nme : Str) (ie : Nat) (I : Inf) : List Stmt → Option C
  | [] => some .nil
  | .Assign [.Name x _] e _ :: r => if isLc e then none else (I.loc x).bind fun i => if i = ie then none else (sx xf cls nme I 20 e).bind fun c => (sxB xf cls nme ie I r).map fun d => .cons (.asg i (I.fz c) c) d
  | [.Return (some e) _] => (sx xf cls nme I 20 e).map fun c => .cons (.ret (I.fz c) c) .nil
  | _ => none
theorem sxB_ok {Y : Cx} {xf : XF} {cls nme : Str} {a : Addr} {ie : Nat} (y : CxZ Y I xf cls a) (hie : I.slot nme = some ie) : ∀ {ss : List Stmt} {c : C}, sxB xf cls nme ie I ss = some c → PSs Y ss (suS (zAt ie a) Y.K Φ c) := by
  intro ss
  induction ss with
  | nil => intro c h; cases h; exact zs_nil
  | cons s r ih =>
    intro c h
    unfold sxB at h
    split at h
    · rename_i heq; cases heq
    · rename_i x px e pos r' heq
      cases heq
      split at h
      · cases h
      · rename_i hl
        obtain ⟨i, h1, h⟩ := Option.bind_eq_some_iff.mp h
        split at h
        · cases h
        · rename_i hi
          obtain ⟨ca, h2, h⟩ := Option.bind_eq_some_iff.mp h
          obtain ⟨cd, h3, h4⟩ := Option.map_eq_some_iff.mp h
          subst h4
          obtain ⟨l1, l2, l3⟩ := loc_okZ y h1
          refine zs_asg (fun σ v z => ?_) (ps_set y.nd l1 l2 (sx_ok y hie _ _ _ h2) (swaps_no (by simpa using hl)) l3) (ih h3)
          show (σ.set i v)[ie]? = _
          rw [List.getElem?_set_ne hi]
          exact z
    · rename_i e pos heq
      cases heq
      obtain ⟨ca, h2, h3⟩ := Option.map_eq_some_iff.mp h
      subst h3
      exact zs_ret (sx_ok y hie _ _ _ h2)
    · cases h
/-! ### try -/
structure CxX (X : Cx) (Φ : Ph) (I : Inf) (xf : XF) : Prop extends CxS X Φ I where
  k : XFK X.K X.mg xf
  fx : ∀ f g n, xf.fxs f = some (g, n) → CallX X Φ f g n
  tel : ∀ f c ds, xf.mks f c = some ds → ∃ (k : Nat) (fa : Addr) (fd : FuncData) (x : Str), FnM X.prog X.w X.K X.mg X.base k fa fd x c ds ∧ L2H.RoomH k X.A ∧ X.mg f = some (.ref fa) ∧ PySem.W.keepIn X.K (.ref fa) = true ∧ Binds X.K fd [x] []
  stk : X.stack = X.env :: X.outer
  frm : X.env.frame = some X.env.locals
def tryC (n : Nat) (xf : XF) (I : Inf) (f : Str) (as : List Expr) : Option (Str × C) := if glB I.sc f && !(f == ("__debug__" : Str)) && !as.isEmpty then (xf.fxs f).bind fun gn => (args (cb (n + 1)).e I false as).bind fun ca => if argsLen ca = gn.2 then some (gn.1, ca) else none else none
def tryB (n : Nat) (xf : XF) (I : Inf) : Stmt → Option (List Nat × Str × C)
  | .Assign [.Name y _] (.Call (.Name f _) as [] _) _ => (I.loc y).bind fun i => (tryC n xf I f as).map fun q => ([i], q.1, q.2)
  | .Expr (.Call (.Name f _) as [] _) _ => (tryC n xf I f as).map fun q => ([], q.1, q.2)
  | _ => none
def tryH (xf : XF) (c nme : Str) (ie : Nat) (I : Inf) (suite : List Stmt) : List Str → Option C
  | [] => some .never
  | k :: ks => if xf.em k c then (sxB xf k nme ie I suite).bind fun a => (tryH xf c nme ie I suite ks).map fun r => .hnd ie k a r else tryH xf c nme ie I suite ks
def tryS (n : Nat) (xf : XF) (I : Inf) : Stmt → Option C
  | .Try [b] [.ExceptHandler (some (.Name c _)) (some nme) (b0 :: suite) _] [] [] _ =>
    (I.slot nme).bind fun ie => if decide (I.sc.names.lookup nme = some .local) && glB I.sc c && !(c == ("__debug__" : Str)) && (xf.cls.any fun k => xf.em k c) then
      (tryB n xf I b).bind fun q => (tryH xf c nme ie I (b0 :: suite) xf.cls).map fun h => .tryx q.1 (I.fz q.2.2) q.2.1 q.2.2 ie h else none
  | _ => none
theorem excAt_set {ρ : Rho} {i : Nat} {d : D} {w : Bool} {x : Str} (h : excAt (ρ.set i (some (d, w))) i = some x) : excO d = some x ∧ i < ρ.length := by
  unfold excAt at h
  by_cases hi : i < ρ.length
  · rw [List.getElem?_set_self hi] at h
    exact ⟨h, hi⟩
  · rw [List.getElem?_eq_none (by rw [List.length_set]; omega)] at h
    cases h
theorem tryH_run {xf : XF} {c nme : Str} {ie : Nat} {suite : List Stmt} {k : Str} {o : Out} {ρ : Rho} (hk : excAt ρ ie = some k) : ∀ {ks : List Str} {h : C}, tryH xf c nme ie I suite ks = some h → exec Φ h ρ = some o →
    ∃ a, k ∈ ks ∧ xf.em k c = true ∧ sxB xf k nme ie I suite = some a ∧ (exec Φ a (ρ.set ie none)).bind (hndO ie) = some o
  | [], h, e, e2 => by cases e; cases e2
  | j :: ks, h, e, e2 => by
    unfold tryH at e
    split at e
    · rename_i hj
      obtain ⟨a, h1, e⟩ := Option.bind_eq_some_iff.mp e
      obtain ⟨r, h2, h3⟩ := Option.map_eq_some_iff.mp e
      subst h3
      have e3 : ((excAt ρ ie).bind fun x => if x = j then (exec Φ a (ρ.set ie none)).bind (hndO ie) else exec Φ r ρ) = some o := e2
      rw [hk] at e3
      simp only [Option.bind_some] at e3
      split at e3
      · rename_i hkj
        subst hkj
        exact ⟨a, List.mem_cons_self, hj, h1, e3⟩
      · obtain ⟨a', m, q⟩ := tryH_run hk h2 e3
        exact ⟨a', List.mem_cons_of_mem _ m, q⟩
    · obtain ⟨a', m, q⟩ := tryH_run hk e e2
      exact ⟨a', List.mem_cons_of_mem _ m, q⟩
theorem CxI.tr (x : CxI X Φ I) (pn : List (Addr × Obj)) (xe : Value → Shared → Prop) : CxI (X.tr pn xe) Φ I := ⟨x.N, x.sc, x.nd, x.kd, x.calm, x.un, x.fn, fun f n h => ⟨(x.fs f n h).ex⟩, x.bs⟩
theorem tryC_ok {n : Nat} {xf : XF} {f g : Str} {as : List Expr} {ca : C} {p pos : Pos} {Wx : WX} (x : CxI X Φ I) (fx : ∀ f g n, xf.fxs f = some (g, n) → CallX X Φ f g n) (tk : Takes X Wx) (h : tryC n xf I f as = some (g, ca)) :
    PE X (.Call (.Name f p) as [] pos) (tCallS (spX X.K Φ g (argsLen ca)) (WE Wx) (tAs X.K Φ ca)) := by
  unfold tryC at h
  split at h
  · rename_i hc
    simp only [Bool.and_eq_true, Bool.not_eq_true'] at hc
    obtain ⟨⟨c1, c2⟩, c3⟩ := hc
    obtain ⟨gn, h1, h⟩ := Option.bind_eq_some_iff.mp h
    obtain ⟨ca', h2, h⟩ := Option.bind_eq_some_iff.mp h
    split at h
    · rename_i hl
      cases h
      obtain ⟨a1, a2, a3⟩ := argsF (cb_sound Φ (n + 1)) x h2
      cases as with
      | nil => cases c3
      | cons e0 es =>
        simp only [List.all_cons, Bool.and_eq_true] at a2
        rw [hl]
        exact pe_callX (fx f gn.1 gn.2 h1) tk (gl_ok x c1) c2 a1 (star_of a2.1) (stars_plain a2.2)
    · cases h
  · cases h
/-- what a try's body comes to -/
def tbX (K : PySem.W.Frag) (Φ : Ph) (is : List Nat) (g : Str) (ca : C) (W : WX) : TS := fun E σ H => tCallS (spX K Φ g (argsLen ca)) (WE W) (tAs K Φ ca) σ H fun v H' => E.nx (match is with
  | [] => σ
  | i :: _ => σ.set i (some v)) H'
theorem tryB_ok {n : Nat} {xf : XF} {b : Stmt} {is : List Nat} {g : Str} {ca : C} {Wx : WX} (x : CxI X Φ I) (fx : ∀ f g n, xf.fxs f = some (g, n) → CallX X Φ f g n) (tk : Takes X Wx) (h : tryB n xf I b = some (is, g, ca)) : PSs X [b] (tbX X.K Φ is g ca Wx) := by
  unfold tryB at h
  split at h
  · obtain ⟨i, h1, h⟩ := Option.bind_eq_some_iff.mp h
    obtain ⟨q, h2, h3⟩ := Option.map_eq_some_iff.mp h
    obtain ⟨g', ca'⟩ := q
    cases h3
    obtain ⟨l1, l2, l3⟩ := loc_ok x h1
    exact pss_one (ps_set x.nd l1 l2 (tryC_ok x fx tk h2) (swaps_no rfl) l3)
  · obtain ⟨q, h2, h3⟩ := Option.map_eq_some_iff.mp h
    obtain ⟨g', ca'⟩ := q
    cases h3
    exact pss_one (ps_expr (tryC_ok x fx tk h2) rfl)
  · cases h
theorem try_read {K : PySem.W.Frag} {xf : XF} {is F : List Nat} {g c nme : Str} {ca h : C} {ie : Nat} {suite : List Stmt} {D : Ends} {σ : L2.St} {H : Hp} (kf : ∀ k, xf.em k c = true → PySem.W.exmOne K (.ref (He.ga K k)) (.ref (He.ga K c)) = some true)
    (hh : tryH xf c nme ie I suite xf.cls = some h) (t : tS K Φ (.tryx is F g ca ie h) D σ H) :
    tbX K Φ is g ca (wAs K (.ref (He.ga K c)) ie (fun a cls d E σ H => ∃ k code, cls = .ref (He.ga K k) ∧ d = none ∧ k ∈ xf.cls ∧ sxB xf k nme ie I suite = some code ∧ suS (zAt ie a) K Φ code E σ H) (fun _ _ _ _ => False) D) D σ H := by
  obtain ⟨S, ρ, o, R, e, p⟩ := t
  simp only [exec] at e
  obtain ⟨ds, e1, e⟩ := Option.bind_eq_some_iff.mp e
  obtain ⟨r, e2, e3⟩ := Option.bind_eq_some_iff.mp e
  obtain ⟨S0, R0, g0⟩ := frz_gs F R
  refine ⟨S0, _, ds, R0, e1, fun vs H1 S1 g1 r1 => ⟨S1, ds, r, g1.live, evs_len e1, r1, e2, fun hx v H' S' g2 rs => ?_, fun k hk H' S' g2 => ?_⟩⟩
  · rw [hx] at e3
    have e4 : Out.next (tryO is (frz F ρ) r) = o := Option.some.inj e3
    subst e4
    have g3 := g0.gr2 (g1.trans g2)
    have R3 := R0.grow (g1.trans g2)
    cases is with
    | nil => exact p σ H' S' g3 R3 fun a h => .inl (ownA_frz h)
    | cons i js =>
      obtain ⟨d, w⟩ := r
      have tk : takeO (d, if w then Os.f else Os.z) = some (d, w) := by cases w <;> rfl
      obtain ⟨R4, ow⟩ := asg_core (i := i) R R3 (fun _ h => ownA_frz h) (rs.back g1) tk
      exact p _ H' S' g3 R4 ow
  · rw [hk] at e3
    have hex : exec Φ h ((frz F ρ).set ie (some (r.1, false))) = some o := e3
    have g3 := g0.gr2 (g1.trans g2)
    have R3 := R0.grow (g1.trans g2)
    have hat : ∃ k', excAt ((frz F ρ).set ie (some (r.1, false))) ie = some k' := by
      cases q : excAt ((frz F ρ).set ie (some (r.1, false))) ie with
      | some k' => exact ⟨k', rfl⟩
      | none =>
        exfalso
        have go : ∀ {ks : List Str} {h : C}, tryH xf c nme ie I suite ks = some h → exec Φ h ((frz F ρ).set ie (some (r.1, false))) = some o → False := by
          intro ks
          induction ks with
          | nil => intro h a b; cases a; cases b
          | cons j ks ih =>
            intro h a b
            unfold tryH at a
            split at a
            · obtain ⟨ca, h1, a⟩ := Option.bind_eq_some_iff.mp a
              obtain ⟨cr, h2, h3⟩ := Option.map_eq_some_iff.mp a
              subst h3
              have b3 : ((excAt ((frz F ρ).set ie (some (r.1, false))) ie).bind fun x => if x = j then (exec Φ ca (((frz F ρ).set ie (some (r.1, false))).set ie none)).bind (hndO ie) else exec Φ cr ((frz F ρ).set ie (some (r.1, false)))) = some o := b
              rw [q] at b3
              cases b3
            · exact ih a b
        exact go hh hex
    obtain ⟨k', hat⟩ := hat
    obtain ⟨hk', hlt⟩ := excAt_set hat
    rw [hk] at hk'
    cases hk'
    obtain ⟨code, m, em, hs, e5⟩ := tryH_run (Φ := Φ) (I := I) hat hh hex
    obtain ⟨o', e6, e7⟩ := Option.bind_eq_some_iff.mp e5
    rw [List.set_set] at e6
    refine ⟨true, kf k em, fun _ a ha => ⟨k, code, rfl, rfl, m, hs, ?_, S', _, o', R3.unset ie _, e6, ?_⟩, fun z => nomatch z⟩
    · show (σ.set ie (some (V.ref a)))[ie]? = _
      rw [List.getElem?_set_self (by rw [← R.len, ← frz_len F]; exact hlt)]
    · have hO : ∀ x, ownA (σ.set ie (some (V.ref a))) ((frz F ρ).set ie none) x → ownA σ ρ x ∨ H x = none := fun x h => .inl (ownA_frz (ownA_unset h))
      cases o' with
      | next ρ4 =>
        cases e7
        exact fun σ' H2 S2 g4 R4 ow => p (σ'.set ie none) H2 S2 (g3.trans hO g4) (R4.unset ie none) fun x hx => (ow x (ownA_unset hx)).elim (hO x) fun q => .inr (g3.back q)
      | brk ρ4 => cases e7
      | ret d w =>
        cases e7
        exact Post.after p g3 hO
theorem ss_try {n : Nat} {xf : XF} (x : CxX X Φ I xf) {st : Stmt} {c : C} (h : tryS n xf I st = some c) : PS X st (tS X.K Φ c) := by
  unfold tryS at h
  split at h
  · rename_i b cn cp nme b0 suite hp pos
    obtain ⟨ie, h1, h⟩ := Option.bind_eq_some_iff.mp h
    split at h
    · rename_i hc
      simp only [Bool.and_eq_true, decide_eq_true_eq, Bool.not_eq_true'] at hc
      obtain ⟨⟨⟨c1, c2⟩, c3⟩, c4⟩ := hc
      obtain ⟨k0, hk0, hk1⟩ := List.any_eq_true.mp c4
      obtain ⟨q, h2, h⟩ := Option.bind_eq_some_iff.mp h
      obtain ⟨is, g, ca⟩ := q
      obtain ⟨hc, h3, h4⟩ := Option.map_eq_some_iff.mp h
      subst h4
      have x0 := x.toCxI
      have hix : I.ix nme = some ie := by
        unfold Inf.slot at h1
        split at h1
        · exact h1
        · cases h1
      refine ps_w (ps_try_as (i := ie) (tb := fun W => tbX X.K Φ is g ca W) (ts := fun a cls d E σ H => ∃ k code, cls = .ref (He.ga X.K k) ∧ d = none ∧ k ∈ xf.cls ∧ sxB xf k nme ie I (b0 :: suite) = some code ∧ suS (zAt ie a) X.K Φ code E σ H) (Wout := fun _ _ _ _ => False)
        x.stk x.frm x0.nd (ix_ok x0 hix) (by unfold Env.kindOf; rw [x0.sc]; exact c1) ⟨gl_ok x0 c2, c3, .inl (x.k.exm _ _ hk1).2⟩ takes0
        (fun W pn xe tk _ => tryB_ok (x0.tr pn xe) (fun f g n h => ⟨(x.fx f g n h).ex⟩) tk h2) (fun a oe cls d pn hz hf => ?_)) fun E σ H t => try_read (fun k e => (x.k.exm _ _ e).1) h3 t
      refine ⟨fun pins s σ H E J ⟨k, code, e1, e2, m, hs, hu⟩ => ?_⟩
      subst e1 e2
      have y : CxZ (X.suite a ((a, oe) :: pn)) I xf k a := ⟨x0.N, x0.sc, x0.nd, x0.fn, call_isG (x.k.cls k m).e List.mem_cons_self hz hf, x.k, fun f hb => (x0.bs _ (List.contains_iff_mem.mp hb)).1 rfl, fun f ds h e p pos ie he hn hg hd => by
        obtain ⟨kk, fa, fd, z, F, hr, hm, hk, hb⟩ := x.tel f k ds h
        exact pe_callM (X := X.suite a ((a, oe) :: pn)) F ⟨hr.dp, hr.un⟩ List.mem_cons_self hz hf hg hm hk hb he hd hn⟩
      exact (sxB_ok y h1 hs).run pins s σ H E J hu
    · cases h
  · cases h
/-! ### bodies -/
def bodyT (n : Nat) (xf : XF) (I : Inf) : List Stmt → Option C := stepB fun s => match tryS n xf I s with
  | some c => some c
  | none => stepS n (body n 30) I s
theorem plain_ok {n : Nat} (x : CxS X Φ I) {s : Stmt} {c : C} (h : stepS n (body n 30) I s = some c) : PS X s (tS X.K Φ c) :=
  stepS_ok x (fun ss c h => (body_both x 30).1 h) (fun ss c h h1 h2 => (body_both x 30).2 h h1 h2) h
theorem bodyT_ok {n : Nat} {xf : XF} (x : CxX X Φ I xf) {ss : List Stmt} {c : C} (h : bodyT n xf I ss = some c) : PSs X ss (tS X.K Φ c) := stepB_ok (fun s c h => by
  split at h
  · rename_i c' hc
    cases h
    exact ss_try x hc
  · exact plain_ok x.toCxS h) h
def stepR (n : Nat) (xf : XF) (rR : List Stmt → Option C) (I : Inf) (s : Stmt) : Option C := match s with
  | .Raise (some (.Call (.Name x _) [.Constant (.str _) _ _] [] _)) none _ => if xf.cls.contains x && glB I.sc x && !(x == ("__debug__" : Str)) then some (.ret [] (.cst (excD x))) else none
  | .Return (some (.Call (.Name f _) as [] _)) _ => match tryC n xf I f as with
    | some q => some (.ret (I.fz q.2) (.call q.1 q.2))
    | none => stepS n (body n 30) I s
  | .If t a b _ => ((cb (n + 1)).t I t).bind fun ct => (rR a).bind fun ca => (rR b).map fun cb' => .iff (I.fz ct) ct ca cb'
  | .For tg it bd [] _ => if noFold it then (tgt I tg).bind fun t => (iter (cb (n + 1)).e I tg it).bind fun ki => (rR bd).map fun c => .for_ t ki.1 (I.fz ki.2) ki.2 c else none
  | s => stepS n (body n 30) I s
def bodyR (n : Nat) (xf : XF) (I : Inf) : Nat → List Stmt → Option C
  | 0 => fun _ => none
  | m + 1 => fun ss => stepB (stepR n xf (bodyR n xf I m) I) ss
theorem stepBL_ok {W : Str → Hp → Prop} {f : Stmt → Option C} (hf : ∀ s c, f s = some c → PS X s (tSL X.K W Φ c)) : ∀ {ss : List Stmt} {c : C}, stepB f ss = some c → PSs X ss (tSL X.K W Φ c)
  | [], _, h => by cases h; exact sls_of ss_nil
  | s :: r, c, h => by
    unfold stepB at h
    obtain ⟨ca, h1, h⟩ := Option.bind_eq_some_iff.mp h
    obtain ⟨cc, h3, h4⟩ := Option.map_eq_some_iff.mp h
    subst h4
    exact sl_cons (hf _ _ h1) (stepBL_ok hf h3)
theorem stepR_ok {n : Nat} {xf : XF} {W : Str → Hp → Prop} {rR : List Stmt → Option C} (x : CxX X Φ I xf) (tk : Takes X (WXof X.K W)) (hr : ∀ ss c, rR ss = some c → PSs X ss (tSL X.K W Φ c)) {st : Stmt} {c : C} (h : stepR n xf rR I st = some c) : PS X st (tSL X.K W Φ c) := by
  have s := cb_sound Φ (n + 1)
  have x0 := x.toCxI
  unfold stepR at h
  split at h
  · split at h
    · rename_i hc
      simp only [Bool.and_eq_true, Bool.not_eq_true'] at hc
      obtain ⟨⟨c1, c2⟩, c3⟩ := hc
      cases h
      have k := x.k.cls _ (List.contains_iff_mem.mp c1)
      exact sl_raise x0.calm tk ⟨k.q, k.gC, k.kC, k.sC, k.tC⟩ (gl_ok x0 c2) c3
    · cases h
  · rename_i f p as pos pos2
    split at h
    · rename_i q hq
      cases h
      obtain ⟨g, ca⟩ := q
      unfold tryC at hq
      split at hq
      · rename_i hc
        simp only [Bool.and_eq_true, Bool.not_eq_true'] at hc
        obtain ⟨⟨c1, c2⟩, c3⟩ := hc
        obtain ⟨gn, h1, hq⟩ := Option.bind_eq_some_iff.mp hq
        obtain ⟨ca', h2, hq⟩ := Option.bind_eq_some_iff.mp hq
        split at hq
        · rename_i hl
          cases hq
          obtain ⟨a1, a2, a3⟩ := argsF s x0 h2
          cases as with
          | nil => cases c3
          | cons e0 es =>
            simp only [List.all_cons, Bool.and_eq_true] at a2
            exact sl_retX (x.fx f gn.1 gn.2 h1) tk hl (gl_ok x0 c1) c2 a1 (star_of a2.1) (stars_plain a2.2)
        · cases hq
      · cases hq
    · exact sl_of (plain_ok x.toCxS h)
  · obtain ⟨ct, h1, h⟩ := Option.bind_eq_some_iff.mp h
    obtain ⟨ca, h2, h⟩ := Option.bind_eq_some_iff.mp h
    obtain ⟨cc, h3, h4⟩ := Option.map_eq_some_iff.mp h
    subst h4
    exact sl_if (s.t X I x0 _ _ h1) (hr _ _ h2) (hr _ _ h3)
  · split at h
    · rename_i hf
      obtain ⟨t, h1, h⟩ := Option.bind_eq_some_iff.mp h
      obtain ⟨ki, h2, h⟩ := Option.bind_eq_some_iff.mp h
      obtain ⟨cc, h3, h4⟩ := Option.map_eq_some_iff.mp h
      subst h4
      obtain ⟨kk, ci⟩ := ki
      exact sl_for (ps_for x.pas x0.calm (iter_ok s x0 h2) (tgt_ok x0 h1) (hr _ _ h3) (noFold_ok hf))
    · cases h
  · exact sl_of (plain_ok x.toCxS h)
theorem bodyR_ok {n : Nat} {xf : XF} {W : Str → Hp → Prop} (x : CxX X Φ I xf) (tk : Takes X (WXof X.K W)) : ∀ (m : Nat) {ss : List Stmt} {c : C}, bodyR n xf I m ss = some c → PSs X ss (tSL X.K W Φ c)
  | 0, _, _, h => nomatch (show (none : Option C) = some _ from h)
  | m + 1, ss, c, h => stepBL_ok (fun s c hs => stepR_ok x tk (fun ss c h => bodyR_ok x tk m h) hs) h
end Pv

set_option Elab.async false
set_option linter.all false
set_option maxRecDepth 100000
/-! Pv14: exceptions: tables of rows, the head. -/
namespace Pv
open PySem L2 PyProof.Rows
/-- a row: its key in the table; 0 plain, 1 with try, 2 one that raises -/
structure RowX where
  key : Str
  kd : Nat
  d : DefI
  fn : Fn
  bs : List Gf
/-- a def that tells of an exception: its parameter, builtins, by class: its code, its answer -/
structure RowM where
  d : DefI
  x : Str
  bs : List Gf
  tl : List (Str × C × List D)
def rowTabX (rs : List RowX) : List (Str × Fn) := rs.map fun r => (r.key, r.fn)
def fsN (rs : List RowX) : List (Str × Nat) := (rs.filter fun r => !(r.kd == 2)).map fun r => (r.d.name, r.d.ps.length)
def fsR (rs : List RowX) : List (Str × Str × Nat) := (rs.filter fun r => r.kd == 2).map fun r => (r.d.name, r.key, r.d.ps.length)
def telM (ms : List RowM) : List ((Str × Str) × List D) := ms.flatMap fun m => m.tl.map fun t => ((m.d.name, t.1), t.2.2)
def xfOf (xf : XF) (ms : List RowM) (rs : List RowX) : XF := { xf with tel := telM ms, fx := fsR rs }
def xf0 (xf : XF) : XF := { xf with tel := [], fx := [] }
def codeX (r : RowX) (xf : XF) (fs : List (Str × Nat)) : Option C := match r.kd with
  | 0 => r.d.code fs r.bs
  | 1 => bodyT 60 xf (r.d.inf fs r.bs) r.d.body
  | _ => bodyR 60 xf (r.d.inf fs r.bs) 30 r.d.body
def keyB (r : RowX) : Bool := match r.kd with
  | 0 => r.key == r.d.name
  | 1 => r.key == r.d.name
  | 2 => true
  | _ => false
def RowsX (xf : XF) (ms : List RowM) : List RowX → Prop
  | [] => True
  | r :: rs => ((r.d.ok r.fn && keyB r) = true ∧ codeX r (xfOf xf ms rs) (fsN rs) = some r.fn.body) ∧ RowsX xf ms rs
/-- what such a def's code is, by class -/
def codeM (m : RowM) (xf : XF) (c : Str) : Option C := sxB (xf0 xf) c m.x 0 (m.d.inf [] m.bs) m.d.body
def okM (m : RowM) : Bool := paramsB m.d.args m.d.ps && scopeB m.d.N m.d.ps m.d.scope && decide (m.d.ps = [m.x]) && decide ((m.d.inf [] m.bs).slot m.x = some 0)
def MsX (xf : XF) : List RowM → Prop
  | [] => True
  | m :: ms => (okM m = true ∧ ∀ t ∈ m.tl, t.1 ∈ xf.cls ∧ codeM m xf t.1 = some t.2.1 ∧ ∀ Φ, exec Φ t.2.1 (List.replicate m.d.N.length none) = some (.ret (.list t.2.2) true)) ∧ MsX xf ms
theorem msX_at {xf : XF} : ∀ {ms : List RowM}, MsX xf ms → ∀ m ∈ ms, okM m = true ∧ ∀ t ∈ m.tl, t.1 ∈ xf.cls ∧ codeM m xf t.1 = some t.2.1 ∧ ∀ Φ, exec Φ t.2.1 (List.replicate m.d.N.length none) = some (.ret (.list t.2.2) true)
  | [], _, _, h => by cases h
  | m :: ms, h, q, hq => by
    rcases List.mem_cons.mp hq with rfl | hq
    · exact h.1
    · exact msX_at h.2 q hq
/-- the head's facts about the rows -/
structure FactX (K : PySem.W.Frag) (mg : Str → Option Value) (d : DefI) (bs : List Gf) : Prop where
  ex : ∃ (qual : Str) (fa : Addr) (fd : FuncData), FunD K d.name qual d.args d.body d.scope [] [] fa fd ∧ mg d.name = some (.ref fa)
  bs : ∀ x ∈ bs, GfOk mg x
section
variable {P : Program} {w : World} {K : PySem.W.Frag} {mg : Str → Option Value} {base : Heap} {Φ : Ph}
/-! ### defs that tell of an exception -/
theorem xfk0 {xf : XF} (h : XFK K mg xf) : XFK K mg (xf0 xf) := ⟨h.cls, h.exm, h.isa, h.isb⟩
theorem xfkOf {xf : XF} {ms : List RowM} {rs : List RowX} (h : XFK K mg xf) : XFK K mg (xfOf xf ms rs) := ⟨h.cls, h.exm, h.isa, h.isb⟩
structure KnownM (P : Program) (w : World) (K : PySem.W.Frag) (mg : Str → Option Value) (base : Heap) (f c : Str) (ds : List D) : Prop where
  ex : ∃ (fa : Addr) (fd : FuncData) (x : Str), FnM P w K mg base 1 fa fd x c ds ∧ mg f = some (.ref fa) ∧ PySem.W.keepIn K (.ref fa) = true ∧ Binds K fd [x] []
theorem def_knownM {xf : XF} {m : RowM} {t : Str × C × List D} (xk : XFK K mg xf) (fx : FactX K mg m.d m.bs) (ok : okM m = true) (mc : t.1 ∈ xf.cls) (hc : codeM m xf t.1 = some t.2.1) (hx : ∀ Φ, exec Φ t.2.1 (List.replicate m.d.N.length none) = some (.ret (.list t.2.2) true)) : KnownM P w K mg base m.d.name t.1 t.2.2 := by
  obtain ⟨qual, fa, fd, F, hm⟩ := fx.ex
  unfold okM at ok
  simp only [Bool.and_eq_true, decide_eq_true_eq] at ok
  obtain ⟨⟨⟨o1, o2⟩, o3⟩, o4⟩ := ok
  have sc := scopeB_ok o2
  rw [o3] at sc
  obtain ⟨⟨dn, dps, dN, down, dargs, dbody, dscope⟩, x, bs, tl⟩ := m
  simp only at *
  have hp : ∃ as : List Arg, dargs = ⟨[], as, none, [], [], none, []⟩ ∧ as.map (·.arg) = dps := by
    unfold paramsB at o1
    split at o1
    · exact ⟨_, rfl, of_decide_eq_true o1⟩
    · cases o1
  obtain ⟨as, rfl, rfl⟩ := hp
  have ndP : (as.map (·.arg)).Nodup := by rw [o3]; simp
  have bn := F.bindsN fun _ _ _ _ _ _ us hl => bindN ndP hl
  refine ⟨fa, fd, x, fn_ofM F sc fun cdv A outer s H Q E p hr hz hf ⟨S, l, q⟩ => ⟨suS (zAt 0 p.1) K (fun _ _ => none) t.2.1, ?_, rfl, S, List.replicate dN.length none, _, ?_, hx _, ?_⟩, hm, F.kp, by rw [o3] at bn; exact bn⟩
  · have y : CxZ (L2H.cxH CX0 P w K mg base dN qual dscope fa cdv A outer s H E p).nox (DefI.inf ⟨dn, as.map (·.arg), dN, down, ⟨[], as, none, [], [], none, []⟩, dbody, dscope⟩ [] bs) (xf0 xf) t.1 p.1 :=
      ⟨rfl, rfl, sc.nd, fun _ _ => rfl, call_isG (oe := p.2) (xk.cls _ mc).e (List.mem_cons_self) hz hf, xfk0 xk, fun f hb => (fx.bs _ (List.contains_iff_mem.mp hb)).1 rfl, fun f ds h => by cases h⟩
    exact sxB_ok y o4 hc
  · refine ⟨by unfold L2.start; have := congrArg List.length sc.pre; rw [List.length_take] at this; simp at this ⊢; omega, fun i d o e => ?_, fun i j d d' a hij e1 e2 => ?_, l⟩
    · rw [List.getElem?_replicate] at e
      split at e <;> cases e
    · rw [List.getElem?_replicate] at e1
      split at e1 <;> cases e1
  · have no : ∀ a, ¬ ownA (L2.start dN [V.ref p.1]) (List.replicate dN.length none) a := fun a ⟨i, d, h1, h2⟩ => by
      rw [List.getElem?_replicate] at h1
      split at h1 <;> cases h1
    refine fun v H' S' g lv rv => q v H' S' (g.gr no lv) ?_
    obtain ⟨a, e, h, ns, c⟩ := rv
    exact ⟨a, e, h.elim (fun z => absurd z (no a)) fun z => z, ns, c⟩
/-! ### defs -/
structure KnownR (P : Program) (w : World) (K : PySem.W.Frag) (mg : Str → Option Value) (base : Heap) (Φ : Ph) (k : Nat) (f g : Str) (n : Nat) : Prop where
  ex : ∃ (fa : Addr) (fd : FuncData) (ps : List Str), FnOk P w K mg base (L2.CX P w) k fa fd ps (spX K Φ g n) ∧ mg f = some (.ref fa) ∧ PySem.W.keepIn K (.ref fa) = true ∧ Binds K fd ps []
theorem KnownR.mono {j k : Nat} {f g : Str} {n : Nat} (h : KnownR P w K mg base Φ j f g n) (hj : j ≤ k) : KnownR P w K mg base Φ k f g n := by
  obtain ⟨fa, fd, ps, F, r⟩ := h.ex
  exact ⟨fa, fd, ps, F.mono hj, r⟩
theorem okD {d : DefI} {fn : Fn} (ok : d.ok fn = true) : ∃ as : List Arg, d.args = ⟨[], as, none, [], [], none, []⟩ ∧ as.map (·.arg) = d.ps ∧ FnScope d.N d.ps d.scope ∧ fn.np = d.ps.length ∧ fn.ns = d.N.length := by
  unfold DefI.ok at ok
  simp only [Bool.and_eq_true, decide_eq_true_eq] at ok
  obtain ⟨⟨⟨o1, o2⟩, o3⟩, o4⟩ := ok
  have hp : ∃ as : List Arg, d.args = ⟨[], as, none, [], [], none, []⟩ ∧ as.map (·.arg) = d.ps := by
    unfold paramsB at o1
    split at o1
    · rename_i h; exact ⟨_, by assumption, of_decide_eq_true o1⟩
    · cases o1
  obtain ⟨as, h1, h2⟩ := hp
  exact ⟨as, h1, h2, scopeB_ok o2, o3, o4⟩
theorem def_knownT {k : Nat} {d : DefI} {fn : Fn} {fs : List (Str × Nat)} {bs : List Gf} {xf : XF} {qual : Str} {fa : Addr} {fd : FuncData}
    (F : FunD K d.name qual d.args d.body d.scope [] [] fa fd) (hm : mg d.name = some (.ref fa)) (ok : d.ok fn = true) (o5 : bodyT 60 xf (d.inf fs bs) d.body = some fn.body) (imp : Impl Φ d.name fn) (xk : XFK K mg xf)
    (hf : ∀ g n, fs.lookup g = some n → Known P w K mg base Φ (k + 1) g n) (hb : ∀ x ∈ bs, GfOk mg x)
    (hx : ∀ f g n, xf.fxs f = some (g, n) → KnownR P w K mg base Φ (k + 1) f g n) (ht : ∀ f c ds, xf.mks f c = some ds → KnownM P w K mg base f c ds) :
    FnOk P w K mg base CX0 (k + 2) fa fd d.ps (spF K Φ d.name d.ps.length) ∧ Binds K fd d.ps [] ∧ (∀ (s : Shared) (us : List Value), us.length = d.ps.length → BindsTo s fd ⟨us, []⟩ (d.ps.zip us)) := by
  obtain ⟨as, h1, h2, sc, o3, o4⟩ := okD ok
  obtain ⟨dn, dps, dN, down, dargs, dbody, dscope⟩ := d
  simp only at *
  subst h1 h2
  have ndP : (as.map (·.arg)).Nodup := by rw [← sc.pre]; exact sc.nd.sublist (List.take_sublist _ _)
  refine ⟨?_, F.bindsN fun _ _ _ _ _ _ us hl => bindN ndP hl, fun s us hl => F.bindsA (fun _ _ _ _ _ _ us hl => bindN ndP hl) s us hl⟩
  refine F.ok sc (fun vs H Q E ⟨S, ds, r, l, hl, ra, _⟩ => by rw [ra.length, hl]) (fun cdv A outer s H vs Q E hr h => ⟨tS K Φ fn.body, PSs.nox ?_, body_runs imp o4 (by rw [o3]; exact h)⟩)
  have un : (A.deeper (envOfC qual dscope s.heap.objs.size fa cdv)).units + 200 < cLine := by have := hr.un; omega
  refine bodyT_ok (X := (cxOf CX0 P w K mg base dN qual dscope fa cdv A outer s H E).nox) (I := ⟨dN, dscope, true, fs, bs, down⟩) (xf := xf) ⟨⟨⟨rfl, rfl, sc.nd, sc.kind, rfl, un, fun _ _ => rfl, fun g n hg => ?_, hb⟩, PassesOwn.never⟩, xk, fun f g n h => ?_, fun f c ds h => ?_, rfl, rfl⟩ o5
  · obtain ⟨ga, gd, gps, G, r1, r2, r3⟩ := (hf g n hg).ex
    exact ⟨k + 1, ga, gd, gps, G, hr, r1, r2, r3⟩
  · obtain ⟨ga, gd, gps, G, r1, r2, r3⟩ := (hx f g n h).ex
    exact ⟨k + 1, ga, gd, gps, G, hr, r1, r2, r3⟩
  · obtain ⟨ga, gd, z, G, r1, r2, r3⟩ := (ht f c ds h).ex
    exact ⟨1, ga, gd, z, G, L2H.roomH_of (hr.mono (Nat.le_add_left 1 k)), r1, r2, r3⟩
theorem def_knownR {k : Nat} {d : DefI} {fn : Fn} {fs : List (Str × Nat)} {bs : List Gf} {xf : XF} {qual key : Str} {fa : Addr} {fd : FuncData}
    (F : FunD K d.name qual d.args d.body d.scope [] [] fa fd) (hm : mg d.name = some (.ref fa)) (ok : d.ok fn = true) (o5 : bodyR 60 xf (d.inf fs bs) 30 d.body = some fn.body) (imp : Impl Φ key fn) (xk : XFK K mg xf)
    (hf : ∀ g n, fs.lookup g = some n → Known P w K mg base Φ (k + 1) g n) (hb : ∀ x ∈ bs, GfOk mg x)
    (hx : ∀ f g n, xf.fxs f = some (g, n) → KnownR P w K mg base Φ (k + 1) f g n) (ht : ∀ f c ds, xf.mks f c = some ds → KnownM P w K mg base f c ds) :
    FnOk P w K mg base (L2.CX P w) (k + 2) fa fd d.ps (spX K Φ key d.ps.length) ∧ Binds K fd d.ps [] := by
  obtain ⟨as, h1, h2, sc, o3, o4⟩ := okD ok
  obtain ⟨dn, dps, dN, down, dargs, dbody, dscope⟩ := d
  simp only at *
  subst h1 h2
  have ndP : (as.map (·.arg)).Nodup := by rw [← sc.pre]; exact sc.nd.sublist (List.take_sublist _ _)
  refine ⟨?_, F.bindsN fun _ _ _ _ _ _ us hl => bindN ndP hl⟩
  refine F.ok sc (fun vs H Q E ⟨S, ds, r, l, hl, ra, _⟩ => by rw [ra.length, hl]) (fun cdv A outer s H vs Q E hr h => ⟨tSL K (fun c H' => E (.ref (He.ga K c)) none H') Φ fn.body, ?_, body_runsX imp o4 (by rw [o3]; exact h)⟩)
  have un : (A.deeper (envOfC qual dscope s.heap.objs.size fa cdv)).units + 200 < cLine := by have := hr.un; omega
  refine bodyR_ok (X := cxOf (L2.CX P w) P w K mg base dN qual dscope fa cdv A outer s H E) (I := ⟨dN, dscope, true, fs, bs, down⟩) (xf := xf) ⟨⟨⟨rfl, rfl, sc.nd, sc.kind, rfl, un, fun _ _ => rfl, fun g n hg => ?_, hb⟩, passes_of rfl⟩, xk, fun f g n h => ?_, fun f c ds h => ?_, rfl, rfl⟩ ((takes_of (E := E) rfl rfl rfl rfl).imp fun cls d σ H' ⟨c, e1, e2, w⟩ => ?_) 30 o5
  · obtain ⟨ga, gd, gps, G, r1, r2, r3⟩ := (hf g n hg).ex
    exact ⟨k + 1, ga, gd, gps, G, hr, r1, r2, r3⟩
  · obtain ⟨ga, gd, gps, G, r1, r2, r3⟩ := (hx f g n h).ex
    exact ⟨k + 1, ga, gd, gps, G, hr, r1, r2, r3⟩
  · obtain ⟨ga, gd, z, G, r1, r2, r3⟩ := (ht f c ds h).ex
    exact ⟨1, ga, gd, z, G, L2H.roomH_of (hr.mono (Nat.le_add_left 1 k)), r1, r2, r3⟩
  · subst e1 e2
    exact w
theorem lookup_fsN {f : Str} {n : Nat} : ∀ {rs : List RowX}, (fsN rs).lookup f = some n → ∃ r ∈ rs, r.kd ≠ 2 ∧ r.d.name = f ∧ r.d.ps.length = n
  | [], h => by cases h
  | r :: rs, h => by
    by_cases hk : r.kd = 2
    · have e : fsN (r :: rs) = fsN rs := by unfold fsN; rw [List.filter_cons_of_neg (by simp [hk])]
      rw [e] at h
      obtain ⟨r', h1, h2⟩ := lookup_fsN (rs := rs) h
      exact ⟨r', List.mem_cons_of_mem _ h1, h2⟩
    · have e : fsN (r :: rs) = (r.d.name, r.d.ps.length) :: fsN rs := by unfold fsN; rw [List.filter_cons_of_pos (by simp [hk])]; rfl
      rw [e, List.lookup_cons] at h
      cases hq : f == r.d.name with
      | true =>
        rw [hq] at h
        cases h
        exact ⟨r, List.mem_cons_self, hk, (eqS hq).symm, rfl⟩
      | false =>
        rw [hq] at h
        obtain ⟨r', h1, h2⟩ := lookup_fsN (rs := rs) h
        exact ⟨r', List.mem_cons_of_mem _ h1, h2⟩
theorem fxs_of {xf : XF} {ms : List RowM} {rs : List RowX} {f g : Str} {n : Nat} (h : (xfOf xf ms rs).fxs f = some (g, n)) : ∃ r ∈ rs, r.kd = 2 ∧ r.d.name = f ∧ r.key = g ∧ r.d.ps.length = n := by
  obtain ⟨p, h1, h2⟩ := Option.map_eq_some_iff.mp h
  have hb := List.find?_some h1
  have hm : p ∈ fsR rs := List.mem_of_find?_eq_some h1
  obtain ⟨r, hr, e⟩ := List.mem_map.mp hm
  obtain ⟨hr1, hr2⟩ := List.mem_filter.mp hr
  subst e
  cases h2
  exact ⟨r, hr1, by simpa using hr2, eqS hb, rfl, rfl⟩
theorem mks_of {xf : XF} {ms : List RowM} {rs : List RowX} {f c : Str} {ds : List D} (h : (xfOf xf ms rs).mks f c = some ds) : ∃ m ∈ ms, ∃ t ∈ m.tl, m.d.name = f ∧ t.1 = c ∧ t.2.2 = ds := by
  obtain ⟨p, h1, h2⟩ := Option.map_eq_some_iff.mp h
  have hb := List.find?_some h1
  have hm : p ∈ telM ms := List.mem_of_find?_eq_some h1
  obtain ⟨m, m1, hm⟩ := List.mem_flatMap.mp hm
  obtain ⟨t, t1, e⟩ := List.mem_map.mp hm
  subst e
  rw [Bool.and_eq_true] at hb
  exact ⟨m, m1, t, t1, eqS hb.1, eqS hb.2, h2⟩
/-- what is known of a row -/
def KnownX (P : Program) (w : World) (K : PySem.W.Frag) (mg : Str → Option Value) (base : Heap) (Φ : Ph) (k : Nat) (r : RowX) : Prop :=
  (r.kd ≠ 2 → Known P w K mg base Φ k r.d.name r.d.ps.length) ∧ (r.kd = 2 → KnownR P w K mg base Φ k r.d.name r.key r.d.ps.length)
theorem row_fn {xf : XF} {ms : List RowM} {r : RowX} {rs : List RowX} {qual : Str} {fa : Addr} {fd : FuncData} (xk : XFK K mg xf) (hM : ∀ m ∈ ms, ∀ t ∈ m.tl, KnownM P w K mg base m.d.name t.1 t.2.2) (F : FunD K r.d.name qual r.d.args r.d.body r.d.scope [] [] fa fd) (hm : mg r.d.name = some (.ref fa)) (fxb : ∀ x ∈ r.bs, GfOk mg x) (ok : (r.d.ok r.fn && keyB r) = true) (o5 : codeX r (xfOf xf ms rs) (fsN rs) = some r.fn.body) (im : Impl Φ r.key r.fn)
    (ih : ∀ q ∈ rs, KnownX P w K mg base Φ (rs.length + 1) q) :
    (r.kd ≠ 2 → FnOk P w K mg base CX0 (rs.length + 2) fa fd r.d.ps (spF K Φ r.d.name r.d.ps.length) ∧ Binds K fd r.d.ps []) ∧ (r.kd = 2 → FnOk P w K mg base (L2.CX P w) (rs.length + 2) fa fd r.d.ps (spX K Φ r.key r.d.ps.length) ∧ Binds K fd r.d.ps []) := by
  have xk' : XFK K mg (xfOf xf ms rs) := xfkOf xk
  have hf : ∀ g n, (fsN rs).lookup g = some n → Known P w K mg base Φ (rs.length + 1) g n := fun g n h => by
    obtain ⟨q, h1, h2, rfl, rfl⟩ := lookup_fsN h
    exact (ih q h1).1 h2
  have hx : ∀ f g n, (xfOf xf ms rs).fxs f = some (g, n) → KnownR P w K mg base Φ (rs.length + 1) f g n := fun f g n h => by
    obtain ⟨q, h1, h2, rfl, rfl, rfl⟩ := fxs_of h
    exact (ih q h1).2 h2
  have ht : ∀ f c ds, (xfOf xf ms rs).mks f c = some ds → KnownM P w K mg base f c ds := fun f c ds h => by
    obtain ⟨m, m1, t, t1, rfl, rfl, rfl⟩ := mks_of h
    exact hM m m1 t t1
  obtain ⟨key, kd, d, fn, bs⟩ := r
  rw [Bool.and_eq_true] at ok
  obtain ⟨ok, kb⟩ := ok
  match kd, kb, o5 with
  | 0, kb, o5 =>
    have e : key = d.name := eqS kb
    subst e
    obtain ⟨G, b, _⟩ := def_known (P := P) (w := w) (base := base) (k := rs.length + 1) F hm ok o5 im hf fxb
    exact ⟨fun _ => ⟨G, b⟩, fun h => nomatch h⟩
  | 1, kb, o5 =>
    have e : key = d.name := eqS kb
    subst e
    obtain ⟨G, b, _⟩ := def_knownT (P := P) (w := w) (base := base) (k := rs.length) F hm ok o5 im xk' hf fxb hx ht
    exact ⟨fun _ => ⟨G, b⟩, fun h => nomatch h⟩
  | 2, kb, o5 =>
    obtain ⟨G, b⟩ := def_knownR (P := P) (w := w) (base := base) (k := rs.length) F hm ok o5 im xk' hf fxb hx ht
    exact ⟨fun h => absurd rfl h, fun _ => ⟨G, b⟩⟩
  | n + 3, kb, o5 => cases kb
theorem row_known {xf : XF} {ms : List RowM} {r : RowX} {rs : List RowX} (xk : XFK K mg xf) (hM : ∀ m ∈ ms, ∀ t ∈ m.tl, KnownM P w K mg base m.d.name t.1 t.2.2) (fx : FactX K mg r.d r.bs) (ok : (r.d.ok r.fn && keyB r) = true) (o5 : codeX r (xfOf xf ms rs) (fsN rs) = some r.fn.body) (im : Impl Φ r.key r.fn)
    (ih : ∀ q ∈ rs, KnownX P w K mg base Φ (rs.length + 1) q) : KnownX P w K mg base Φ (rs.length + 2) r := by
  obtain ⟨qual, fa, fd, F, hm⟩ := fx.ex
  obtain ⟨h1, h2⟩ := row_fn xk hM F hm fx.bs ok o5 im ih
  exact ⟨fun h => ⟨fa, fd, _, (h1 h).1, hm, F.kp, (h1 h).2⟩, fun h => ⟨fa, fd, _, (h2 h).1, hm, F.kp, (h2 h).2⟩⟩
theorem KnownX.mono {j k : Nat} {r : RowX} (h : KnownX P w K mg base Φ j r) (hj : j ≤ k) : KnownX P w K mg base Φ k r := ⟨fun z => (h.1 z).mono hj, fun z => (h.2 z).mono hj⟩
theorem rows_knownX {xf : XF} {ms : List RowM} (xk : XFK K mg xf) (hM : ∀ m ∈ ms, ∀ t ∈ m.tl, KnownM P w K mg base m.d.name t.1 t.2.2) : ∀ {rs : List RowX}, RowsX xf ms rs → (∀ r ∈ rs, FactX K mg r.d r.bs) → (∀ r ∈ rs, Impl Φ r.key r.fn) → ∀ r ∈ rs, KnownX P w K mg base Φ (rs.length + 1) r
  | [], _, _, _, _, h => by cases h
  | r :: rs, ok, fx, im, q, hq => by
    have ih := rows_knownX xk hM ok.2 (fun q hq => fx q (List.mem_cons_of_mem _ hq)) fun q hq => im q (List.mem_cons_of_mem _ hq)
    rcases List.mem_cons.mp hq with rfl | hq
    · exact row_known xk hM (fx q List.mem_cons_self) ok.1.1 ok.1.2 (im q List.mem_cons_self) ih
    · exact (ih q hq).mono (Nat.le_succ _)
end
/-! ### the head's facts -/
def xfFa (xf : XF) : List He.Fa := xf.cls.flatMap (fun k => [He.Fa.exc k, He.Fa.glo k]) ++ (xf.exm.flatMap (fun p => [He.Fa.exm p.1 p.2 true, He.Fa.glo p.2]) ++ (xf.isa.map (fun p => He.Fa.glo p.1.2) ++ [He.Fa.free "ValueError"]))
def defD (d : DefI) : He.DefD := ⟨(d.name, none), d.name, d.name, d.args, d.body, d.scope, [], []⟩
def tabDefX (ms : List RowM) (rs : List RowX) : List He.DefD := rs.map (fun r => defD r.d) ++ ms.map fun m => defD m.d
def tabFaX (xf : XF) (ms : List RowM) (rs : List RowX) : List He.Fa := rs.flatMap (fun r => He.Fa.glo r.d.name :: r.bs.map gfFa) ++ (ms.flatMap (fun m => He.Fa.glo m.d.name :: m.bs.map gfFa) ++ xfFa xf)
def excCB (K : PySem.W.Frag) (D : Addr) : Bool :=
  decide (PySem.W.findIn K (.ref D) "__getattribute__" = some (some (.builtin "BaseException.__getattribute__"))) && (decide (PySem.W.findIn K (.ref D) "__getattr__" = some none) && (decide (PySem.W.subIn K (.ref D) (.type "BaseException") = some true) && (PySem.W.hasDictIn K D &&
    (decide (PySem.W.findIn K (.ref D) "__class__" = some (some (.builtin "object.__class__"))) && (decide (PySem.W.specialIn K (.builtin "object.__class__") "__get__" = some (some (.builtin "getset_descriptor.__get__"))) && (decide (PySem.W.takesIn K (.builtin "object.__class__") = some true) && decide (PySem.W.mroIn K D (.type "object") = some true)))))))
theorem excCB_ok {K : PySem.W.Frag} {D : Addr} (h : excCB K D = true) : ExcC K D := by
  unfold excCB at h
  simp only [Bool.and_eq_true, decide_eq_true_eq] at h
  obtain ⟨h1, h2, h3, h4, h5, h6, h7, h8⟩ := h
  exact ⟨h1, h2, h3, h4, h5, h6, h7, h8⟩
def exX (xf : XF) (K : PySem.W.Frag) : Bool := (xf.cls.all fun k => excCB K (He.ga K k)) && ((xf.isa.all fun p => decide (PySem.W.kitOne K (.ref (He.ga K p.1.1)) (.ref (He.ga K p.1.2)) = some p.2)) && xf.isb.all fun p => decide (PySem.W.kitOne K (.ref (He.ga K p.1)) (.type "ValueError") = some p.2))
section
variable {K : PySem.W.Frag} {h : Heap} {mg : Str → Option Value} {xf : XF} {ms : List RowM} {rs : List RowX}
theorem xfk_of (X : K.In h) (G : h.Ns mainGlobals mg) (c : He.SaysD (tabFaX xf ms rs) (tabDefX ms rs) K) (e : exX xf K = true) : XFK K mg xf := by
  unfold exX at e
  simp only [Bool.and_eq_true, List.all_eq_true, decide_eq_true_eq] at e
  obtain ⟨e1, e2, e3⟩ := e
  have fx : ∀ f ∈ xfFa xf, f.ok K = true := fun f hf => c.facts (List.mem_append_right _ (List.mem_append_right _ hf))
  refine ⟨fun k hk => ?_, fun k cc hk => ?_, fun cc y b hb => ?_, fun cc b hb => ?_⟩
  · have m : ∀ f ∈ [He.Fa.exc k, He.Fa.glo k], f ∈ xfFa xf := fun f hf => List.mem_append_left _ (List.mem_flatMap.mpr ⟨k, hk, hf⟩)
    obtain ⟨q1, q2, q3, q4⟩ := He.exc_ok (fx _ (m (.exc k) List.mem_cons_self))
    exact ⟨q1, He.glo_ok X G (fx _ (m (.glo k) (List.mem_cons_of_mem _ List.mem_cons_self))), q2, q3, q4, excCB_ok (e1 k hk)⟩
  · unfold XF.em at hk
    obtain ⟨p, hp, hq⟩ := List.any_eq_true.mp hk
    rw [Bool.and_eq_true] at hq
    obtain ⟨p1, p2⟩ := p
    cases eqS hq.1
    cases eqS hq.2
    have m : ∀ f ∈ [He.Fa.exm p1 p2 true, He.Fa.glo p2], f ∈ xfFa xf := fun f hf => List.mem_append_right _ (List.mem_append_left _ (List.mem_flatMap.mpr ⟨(p1, p2), hp, hf⟩))
    exact ⟨He.exm_ok (fx _ (m _ List.mem_cons_self)), He.glo_ok X G (fx _ (m (.glo p2) (List.mem_cons_of_mem _ List.mem_cons_self)))⟩
  · obtain ⟨p, h1, h2⟩ := Option.map_eq_some_iff.mp hb
    have hq := List.find?_some h1
    have hp := List.mem_of_find?_eq_some h1
    rw [Bool.and_eq_true] at hq
    obtain ⟨⟨p1, p2⟩, pb⟩ := p
    cases eqS hq.1
    cases eqS hq.2
    cases h2
    exact ⟨e2 _ hp, He.glo_ok X G (fx (.glo p2) (List.mem_append_right _ (List.mem_append_right _ (List.mem_append_left _ (List.mem_map.mpr ⟨_, hp, rfl⟩)))))⟩
  · obtain ⟨p, h1, h2⟩ := Option.map_eq_some_iff.mp hb
    have hq := List.find?_some h1
    have hp := List.mem_of_find?_eq_some h1
    obtain ⟨p1, pb⟩ := p
    cases eqS hq
    cases h2
    exact ⟨e3 _ hp, He.free_ok X G (fx (.free "ValueError") (List.mem_append_right _ (List.mem_append_right _ (List.mem_append_right _ List.mem_cons_self))))⟩
theorem gf_ok (X : K.In h) (G : h.Ns mainGlobals mg) {x : Gf} (k : (gfFa x).ok K = true) : GfOk mg x := by
  obtain ⟨n, o⟩ := x
  cases o with
  | none => exact ⟨fun _ => He.free_ok X G k, fun i e => by cases e⟩
  | some i => exact ⟨fun e => by (cases e), fun j e => by cases e; exact He.int_ok X G k⟩
theorem fact_row (X : K.In h) (G : h.Ns mainGlobals mg) (c : He.SaysD (tabFaX xf ms rs) (tabDefX ms rs) K) : ∀ r ∈ rs, FactX K mg r.d r.bs := fun r hr => by
  obtain ⟨fd, F⟩ := c.defs (d := defD r.d) (List.mem_append_left _ (List.mem_map.mpr ⟨r, hr, rfl⟩))
  have f1 : ∀ f ∈ (He.Fa.glo r.d.name :: r.bs.map gfFa), f ∈ tabFaX xf ms rs := fun f hf => List.mem_append_left _ (List.mem_flatMap.mpr ⟨r, hr, hf⟩)
  exact ⟨⟨_, _, fd, F, He.glo_ok X G (c.facts (f1 _ List.mem_cons_self))⟩, fun x hx => gf_ok X G (c.facts (f1 _ (List.mem_cons_of_mem _ (List.mem_map_of_mem hx))))⟩
theorem fact_tel (X : K.In h) (G : h.Ns mainGlobals mg) (c : He.SaysD (tabFaX xf ms rs) (tabDefX ms rs) K) : ∀ m ∈ ms, FactX K mg m.d m.bs := fun m hr => by
  obtain ⟨fd, F⟩ := c.defs (d := defD m.d) (List.mem_append_right _ (List.mem_map.mpr ⟨m, hr, rfl⟩))
  have f1 : ∀ f ∈ (He.Fa.glo m.d.name :: m.bs.map gfFa), f ∈ tabFaX xf ms rs := fun f hf => List.mem_append_right _ (List.mem_append_left _ (List.mem_flatMap.mpr ⟨m, hr, hf⟩))
  exact ⟨⟨_, _, fd, F, He.glo_ok X G (c.facts (f1 _ List.mem_cons_self))⟩, fun x hx => gf_ok X G (c.facts (f1 _ (List.mem_cons_of_mem _ (List.mem_map_of_mem hx))))⟩
end
/-- the law's def over a table of rows -/
theorem law_walkX {P : Program} {w : World} {K : PySem.W.Frag} {h : Heap} {mg : Str → Option Value} {fa : Addr} {n : Nat} {x : Str} {xf : XF} {ms : List RowM} {r : RowX} {rs : List RowX}
    (X : K.In h) (G : h.Ns mainGlobals mg) (c : He.SaysD (tabFaX xf ms (r :: rs)) (tabDefX ms (r :: rs)) K) (e : exX xf K = true) (hfa : mg r.d.name = some (.ref fa)) (hp : r.d.ps = [x]) (hk : r.kd ≠ 2) (hkey : r.key = r.d.name) (okM : MsX xf ms) (ok : RowsX xf ms (r :: rs)) (tk : tableOk (rowTabX (r :: rs)) = true)
    (law : ∀ ns : List Int, ns.length ≤ n → ∃ o, look (rowTabX (r :: rs)) r.d.name [scr (ns.map .int)] = some (.bool true, o)) :
    ∃ (fd : FuncData) (sp : Sp), (∀ (s : Shared) (u : Value), BindsTo s fd ⟨[u], []⟩ [(x, u)]) ∧
      (∀ (H : Hp) (a : Addr) (ns : List Int), ns.length ≤ n → Only H → SqL K H a (ns.map V.int) → sp [.ref a] H (fun v _ => v = .bl true) fun _ _ _ => False) ∧
      ∀ base : Heap, K.In base → base.Ns mainGlobals mg → FnOk P w K mg base CX0 (rs.length + 2) fa fd [x] sp := by
  have xk := xfk_of X G c e
  have fx := fact_row X G c
  have fm := fact_tel X G c
  have im : ∀ q ∈ r :: rs, Impl (look (rowTabX (r :: rs))) q.key q.fn := fun q hq => look_impl tk (List.mem_map.mpr ⟨q, hq, rfl⟩)
  have f := fx r List.mem_cons_self
  have hM : ∀ base : Heap, ∀ m ∈ ms, ∀ t ∈ m.tl, KnownM P w K mg base m.d.name t.1 t.2.2 := fun base m hm t ht => by
    obtain ⟨o, q⟩ := msX_at okM m hm
    obtain ⟨q1, q2, q3⟩ := q t ht
    exact def_knownM xk (fm m hm) o q1 q2 q3
  obtain ⟨qual, fa', fd, F, hm⟩ := f.ex
  have e : fa' = fa := by rw [hm] at hfa; cases hfa; rfl
  subst e
  have all : ∀ base : Heap, FnOk P w K mg base CX0 (rs.length + 2) fa' fd r.d.ps (spF K (look (rowTabX (r :: rs))) r.d.name r.d.ps.length) := fun base =>
    ((row_fn xk (hM base) F hm f.bs ok.1.1 ok.1.2 (im r List.mem_cons_self) (rows_knownX xk (hM base) ok.2 (fun q hq => fx q (List.mem_cons_of_mem _ hq)) fun q hq => im q (List.mem_cons_of_mem _ hq))).1 hk).1
  obtain ⟨as, h1, h2, sc, o3, o4⟩ := okD (Bool.and_eq_true_iff.mp ok.1.1).1
  have ndP : (as.map (·.arg)).Nodup := by rw [h2, ← sc.pre]; exact sc.nd.sublist (List.take_sublist _ _)
  have bA : ∀ (s : Shared) (us : List Value), us.length = r.d.ps.length → BindsTo s fd ⟨us, []⟩ (r.d.ps.zip us) := by
    rw [h1] at F
    rw [← h2]
    exact fun s us hl => F.bindsA (fun _ _ _ _ _ _ us hl => bindN ndP hl) s us hl
  refine ⟨fd, spF K (look (rowTabX (r :: rs))) r.d.name r.d.ps.length, fun s u => ?_, fun H a ns hl hO hS => ?_, fun base _ _ => ?_⟩
  · have := bA s [u] (by rw [hp]; rfl)
    rw [hp] at this
    exact this
  · obtain ⟨o, e⟩ := law ns hl
    refine ⟨fun _ => False, [scr (ns.map .int)], _, fun _ z => z.elim, by rw [hp]; rfl, .cons (.read (only_read hO hS) rfl) .nil, e, fun v H' S' g rs' => ?_⟩
    exact rs'.look.bool
  · have := all base
    rw [hp] at this ⊢
    exact this
end Pv

set_option Elab.async false
set_option linter.all false
set_option maxRecDepth 100000
/-! Fn_k07: the codes of the defs. -/
namespace K07
open PySem Pv
def f__law_cell_at : Fn := ⟨2, 2, (.cons (.iff [] (.cmp .lt (.brw 1) (.bi .len (.cons (.brw 0) .nil))) (.cons (.ret [] (.idx (.brw 0) (.brw 1))) .nil) .nil) (.cons (.ret [] (.cst (.int 0))) .nil))⟩
def f__law_stirred : Fn := ⟨1, 5, (.cons (.asg 1 [] (.cst (.int 618970019642690137449562111))) (.cons (.asg 2 [] (.lst .nil)) (.cons (.for_ (.nm 3) .range [] (.cons (.bi .max2 (.cons (.bi .len (.cons (.brw 0) .nil)) (.cons (.cst (.int 7)) .nil))) .nil) (.cons (.asg 4 [] (.bin .mod (.call "_law_cell_at" (.cons (.var 0) (.cons (.var 3) .nil))) (.brw 1))) (.cons (.asg 4 [] (.bin .mod (.bin .add (.bin .add (.bin .add (.bin .mul (.brw 4) (.cst (.int 48271))) (.bin .mul (.bin .mul (.brw 3) (.brw 3)) (.cst (.int 7919)))) (.brw 3)) (.cst (.int 1))) (.brw 1))) (.cons (.app 2 [] (.bin .mod (.bin .mul (.bin .mod (.bin .mul (.brw 4) (.cst (.int 413338662677311947023157))) (.brw 1)) (.cst (.int 282475249))) (.brw 1))) .nil)))) (.cons (.retv 2) .nil))))⟩
def f__law_low : Fn := ⟨2, 4, (.cons (.asg 2 [] (.bi .abs (.cons (.brw 0) .nil))) (.cons (.asg 3 [] (.bi .abs (.cons (.brw 1) .nil))) (.cons (.whl (.cmp .gt (.brw 3) (.cst (.int 0))) (.cons (.par 2 3 (.cons (.var 3) (.cons (.bin .mod (.brw 2) (.brw 3)) .nil))) .nil)) (.cons (.iff [] (.cmp .lt (.brw 1) (.cst (.int 0))) (.cons (.asg 2 [] (.neg (.brw 2))) .nil) .nil) (.cons (.ret [] (.tup (.cons (.bin .fdiv (.brw 0) (.brw 2)) (.cons (.bin .fdiv (.brw 1) (.brw 2)) .nil)))) .nil)))))⟩
def f__law_height_by : Fn := ⟨4, 4, (.cons (.iff [] (.cmp .eq (.bin .mod (.brw 0) (.cst (.int 4))) (.cst (.int 1))) (.cons (.ret [] (.tup (.cons (.bin .sub (.bin .mod (.brw 3) (.cst (.int 3))) (.bin .mul (.bin .add (.bin .add (.bin .mul (.brw 1) (.brw 1)) (.bin .mul (.brw 1) (.brw 2))) (.bin .mul (.brw 2) (.brw 2))) (.bin .add (.cst (.int 1)) (.bin .mod (.bin .fdiv (.brw 0) (.cst (.int 36))) (.cst (.int 5)))))) (.cons (.cst (.int 1)) .nil)))) .nil) .nil) (.cons (.iff [] (.cmp .eq (.bin .mod (.brw 0) (.cst (.int 4))) (.cst (.int 3))) (.cons (.ret [] (.tup (.cons (.bin .mod (.brw 3) (.cst (.int 3))) (.cons (.cst (.int 1)) .nil)))) .nil) .nil) (.cons (.iff [] (.cmp .eq (.bin .mod (.bin .fdiv (.brw 0) (.cst (.int 36))) (.cst (.int 2))) (.cst (.int 1))) (.cons (.ret [] (.call "_law_low" (.cons (.bin .sub (.bin .mod (.brw 3) (.bin .add (.bin .mul (.cst (.int 2)) (.bin .pow (.cst (.int 10)) (.cst (.int 20)))) (.cst (.int 1)))) (.bin .pow (.cst (.int 10)) (.cst (.int 20)))) (.cons (.bin .add (.cst (.int 1)) (.bin .mod (.bin .fdiv (.brw 3) (.cst (.int 11))) (.cst (.int 12)))) .nil)))) .nil) .nil) (.cons (.ret [] (.call "_law_low" (.cons (.bin .sub (.bin .mod (.brw 3) (.cst (.int 13))) (.cst (.int 6))) (.cons (.bin .add (.cst (.int 1)) (.bin .mod (.bin .fdiv (.brw 3) (.cst (.int 13))) (.cst (.int 4)))) .nil)))) .nil))))⟩
def f__law_roof_by : Fn := ⟨4, 11, (.cons (.asg 4 [] .dnew) (.cons (.for_ (.nm 5) .seq [] (.cons (.var 1) .nil) (.cons (.asg 6 [] (.bin .mod (.brw 5) (.brw 3))) (.cons (.asg 7 [] (.bin .mod (.bin .fdiv (.brw 5) (.brw 3)) (.brw 3))) (.cons (.iff [] (.cmp .eq (.bin .mod (.brw 0) (.cst (.int 4))) (.cst (.int 2))) (.cons (.asg 7 [] (.bin .mul (.brw 6) (.bin .mod (.bin .fdiv (.brw 0) (.cst (.int 4))) (.cst (.int 2))))) .nil) .nil) (.cons (.asg 8 [] (.call "_law_height_by" (.cons (.var 0) (.cons (.var 6) (.cons (.var 7) (.cons (.bin .fdiv (.brw 5) (.bin .mul (.brw 3) (.brw 3))) .nil)))))) (.cons (.iff [] (.cmp .inn (.tup (.cons (.var 6) (.cons (.var 7) .nil))) (.brw 4)) (.cons (.asg 9 [] (.idx (.brw 4) (.tup (.cons (.var 6) (.cons (.var 7) .nil))))) (.cons (.iff [] (.cmp .gt (.bin .mul (.idx (.brw 8) (.cst (.int 0))) (.idx (.brw 9) (.cst (.int 1)))) (.bin .mul (.idx (.brw 9) (.cst (.int 0))) (.idx (.brw 8) (.cst (.int 1))))) (.cons (.seti 4 [] (.tup (.cons (.var 6) (.cons (.var 7) .nil))) (.var 8)) .nil) .nil) .nil)) (.cons (.iff [] (.cmp .lt (.bi .len (.cons (.brw 4) .nil)) (.brw 2)) (.cons (.seti 4 [] (.tup (.cons (.var 6) (.cons (.var 7) .nil))) (.var 8)) .nil) .nil) .nil)) .nil)))))) (.cons (.iff [] (.cmp .eq (.brw 4) .dnew) (.cons (.seti 4 [] (.tup (.cons (.bin .mod (.brw 0) (.brw 3)) (.cons (.cst (.int 0)) .nil))) (.tup (.cons (.cst (.int 0)) (.cons (.cst (.int 1)) .nil)))) .nil) .nil) (.cons (.ret [] (.lc (.nm 10) .seq (.cons (.bi .sorted (.cons (.brw 4) .nil)) .nil) (.cst (.bool true)) (.tup (.cons (.idx (.brw 10) (.cst (.int 0))) (.cons (.idx (.brw 10) (.cst (.int 1))) (.cons (.idx (.brw 4) (.brw 10)) .nil)))))) .nil))))⟩
def f__law_crossing : Fn := ⟨3, 10, (.cons (.asg 3 [] (.tup (.cons (.bin .sub (.idx (.brw 0) (.cst (.int 0))) (.idx (.brw 1) (.cst (.int 0)))) (.cons (.bin .sub (.idx (.brw 0) (.cst (.int 1))) (.idx (.brw 1) (.cst (.int 1)))) (.cons (.bin .sub (.bin .mul (.idx (.idx (.brw 1) (.cst (.int 2))) (.cst (.int 0))) (.idx (.idx (.brw 0) (.cst (.int 2))) (.cst (.int 1)))) (.bin .mul (.idx (.idx (.brw 0) (.cst (.int 2))) (.cst (.int 0))) (.idx (.idx (.brw 1) (.cst (.int 2))) (.cst (.int 1))))) .nil))))) (.cons (.asg 4 [] (.tup (.cons (.bin .sub (.idx (.brw 0) (.cst (.int 0))) (.idx (.brw 2) (.cst (.int 0)))) (.cons (.bin .sub (.idx (.brw 0) (.cst (.int 1))) (.idx (.brw 2) (.cst (.int 1)))) (.cons (.bin .sub (.bin .mul (.idx (.idx (.brw 2) (.cst (.int 2))) (.cst (.int 0))) (.idx (.idx (.brw 0) (.cst (.int 2))) (.cst (.int 1)))) (.bin .mul (.idx (.idx (.brw 0) (.cst (.int 2))) (.cst (.int 0))) (.idx (.idx (.brw 2) (.cst (.int 2))) (.cst (.int 1))))) .nil))))) (.cons (.asg 5 [] (.bin .sub (.bin .mul (.idx (.brw 3) (.cst (.int 0))) (.idx (.brw 4) (.cst (.int 1)))) (.bin .mul (.idx (.brw 3) (.cst (.int 1))) (.idx (.brw 4) (.cst (.int 0)))))) (.cons (.iff [] (.cmp .eq (.brw 5) (.cst (.int 0))) (.cons (.ret [] (.cst .none)) .nil) .nil) (.cons (.asg 6 [] (.bin .mul (.idx (.idx (.brw 1) (.cst (.int 2))) (.cst (.int 1))) (.idx (.idx (.brw 0) (.cst (.int 2))) (.cst (.int 1))))) (.cons (.asg 7 [] (.bin .mul (.idx (.idx (.brw 2) (.cst (.int 2))) (.cst (.int 1))) (.idx (.idx (.brw 0) (.cst (.int 2))) (.cst (.int 1))))) (.cons (.asg 8 [] (.bin .sub (.bin .mul (.bin .mul (.idx (.brw 3) (.cst (.int 2))) (.idx (.brw 4) (.cst (.int 1)))) (.brw 7)) (.bin .mul (.bin .mul (.idx (.brw 4) (.cst (.int 2))) (.idx (.brw 3) (.cst (.int 1)))) (.brw 6)))) (.cons (.asg 9 [] (.bin .sub (.bin .mul (.bin .mul (.idx (.brw 4) (.cst (.int 2))) (.idx (.brw 3) (.cst (.int 0)))) (.brw 6)) (.bin .mul (.bin .mul (.idx (.brw 3) (.cst (.int 2))) (.idx (.brw 4) (.cst (.int 0)))) (.brw 7)))) (.cons (.ret [] (.tup (.cons (.call "_law_low" (.cons (.var 8) (.cons (.bin .mul (.bin .mul (.brw 5) (.brw 6)) (.brw 7)) .nil))) (.cons (.call "_law_low" (.cons (.var 9) (.cons (.bin .mul (.bin .mul (.brw 5) (.brw 6)) (.brw 7)) .nil))) .nil)))) .nil)))))))))⟩
def f__law_point_by : Fn := ⟨3, 6, (.cons (.iff [] (.cmp .eq (.bin .mod (.brw 1) (.cst (.int 3))) (.cst (.int 0))) (.cons (.asg 4 [] (.bi .len (.cons (.brw 0) .nil))) (.cons (.asg 5 [] (.call "_law_crossing" (.cons (.idx (.brw 0) (.bin .mod (.brw 2) (.brw 4))) (.cons (.idx (.brw 0) (.bin .mod (.bin .fdiv (.brw 2) (.brw 4)) (.brw 4))) (.cons (.idx (.brw 0) (.bin .mod (.bin .fdiv (.brw 1) (.cst (.int 3))) (.brw 4))) .nil))))) (.cons (.iff [] (.cmp .isnn (.brw 5) (.cst .none)) (.cons (.retv 5) .nil) .nil) .nil))) .nil) (.cons (.iff [] (.cmp .eq (.bin .mod (.brw 1) (.cst (.int 3))) (.cst (.int 1))) (.cons (.ret [] (.tup (.cons (.call "_law_low" (.cons (.bin .sub (.bin .mod (.bin .fdiv (.brw 1) (.cst (.int 3))) (.cst (.int 9))) (.cst (.int 4))) (.cons (.bin .add (.cst (.int 1)) (.bin .mod (.bin .fdiv (.brw 1) (.cst (.int 27))) (.cst (.int 3)))) .nil))) (.cons (.call "_law_low" (.cons (.bin .sub (.bin .mod (.brw 2) (.cst (.int 9))) (.cst (.int 4))) (.cons (.bin .add (.cst (.int 1)) (.bin .mod (.bin .fdiv (.brw 2) (.cst (.int 9))) (.cst (.int 3)))) .nil))) .nil)))) .nil) .nil) (.cons (.asg 3 [] (.call "_law_low" (.cons (.bin .sub (.bin .mod (.bin .fdiv (.brw 1) (.cst (.int 3))) (.bin .add (.bin .mul (.cst (.int 2)) (.bin .pow (.cst (.int 10)) (.cst (.int 20)))) (.cst (.int 1)))) (.bin .pow (.cst (.int 10)) (.cst (.int 20)))) (.cons (.bin .add (.cst (.int 1)) (.bin .mod (.bin .fdiv (.brw 1) (.cst (.int 7))) (.cst (.int 9)))) .nil)))) (.cons (.ret [] (.tup (.cons (.var 3) (.cons (.call "_law_low" (.cons (.bin .sub (.bin .mod (.brw 2) (.bin .add (.bin .mul (.cst (.int 2)) (.bin .pow (.cst (.int 10)) (.cst (.int 20)))) (.cst (.int 1)))) (.bin .pow (.cst (.int 10)) (.cst (.int 20)))) (.cons (.bin .add (.cst (.int 1)) (.bin .mod (.bin .fdiv (.brw 2) (.cst (.int 7))) (.cst (.int 9)))) .nil))) .nil)))) .nil))))⟩
def f_slope_of : Fn := ⟨1, 1, (.cons (.ret [] (.tup (.cons (.idx (.brw 0) (.cst (.int 0))) (.cons (.idx (.brw 0) (.cst (.int 1))) .nil)))) .nil)⟩
def f_divisor : Fn := ⟨2, 3, (.cons (.asg 0 [] (.bi .abs (.cons (.brw 0) .nil))) (.cons (.asg 1 [] (.bi .abs (.cons (.brw 1) .nil))) (.cons (.whl (.cmp .ne (.brw 1) (.cst (.int 0))) (.cons (.asg 2 [] (.bin .mod (.brw 0) (.brw 1))) (.cons (.asg 0 [] (.var 1)) (.cons (.asg 1 [] (.var 2)) .nil)))) (.cons (.retv 0) .nil))))⟩
def f_multiple : Fn := ⟨2, 2, (.cons (.ret [] (.bin .mul (.bin .fdiv (.brw 0) (.call "divisor" (.cons (.var 0) (.cons (.var 1) .nil)))) (.brw 1))) .nil)⟩
def f_common_bottom : Fn := ⟨1, 3, (.cons (.asg 1 [] (.cst (.int 1))) (.cons (.for_ (.nm 2) .seq [] (.cons (.var 0) .nil) (.cons (.asg 1 [] (.call "multiple" (.cons (.var 1) (.cons (.idx (.brw 2) (.cst (.int 1))) .nil)))) .nil)) (.cons (.retv 1) .nil)))⟩
def f_scaled : Fn := ⟨1, 6, (.cons (.asg 1 [] (.call "common_bottom" (.cons (.lc (.nm 2) .seq (.cons (.var 0) .nil) (.cst (.bool true)) (.idx (.brw 2) (.cst (.int 2)))) .nil))) (.cons (.ret [] (.tup (.cons (.lc (.tu [3, 4, 5]) .seq (.cons (.var 0) .nil) (.cst (.bool true)) (.tup (.cons (.var 3) (.cons (.var 4) (.cons (.bin .mul (.idx (.brw 5) (.cst (.int 0))) (.bin .fdiv (.brw 1) (.idx (.brw 5) (.cst (.int 1))))) .nil))))) (.cons (.var 1) .nil)))) .nil))⟩
def f_levels : Fn := ⟨2, 12, (.cons (.unp [5, 6] [] (.call "scaled" (.cons (.var 0) .nil))) (.cons (.unp [7, 8] [] (.var 1)) (.cons (.asg 2 [] (.bin .mul (.bin .mul (.idx (.brw 7) (.cst (.int 0))) (.idx (.brw 8) (.cst (.int 1)))) (.brw 6))) (.cons (.asg 3 [] (.bin .mul (.bin .mul (.idx (.brw 8) (.cst (.int 0))) (.idx (.brw 7) (.cst (.int 1)))) (.brw 6))) (.cons (.asg 4 [] (.bin .mul (.idx (.brw 7) (.cst (.int 1))) (.idx (.brw 8) (.cst (.int 1))))) (.cons (.ret [] (.lc (.tu [9, 10, 11]) .seq (.cons (.var 5) .nil) (.cst (.bool true)) (.bin .add (.bin .add (.bin .mul (.brw 9) (.brw 2)) (.bin .mul (.brw 10) (.brw 3))) (.bin .mul (.brw 11) (.brw 4))))) .nil))))))⟩
def f_on_top : Fn := ⟨2, 6, (.cons (.asg 2 [] (.call "levels" (.cons (.var 0) (.cons (.var 1) .nil)))) (.cons (.asg 3 [] (.bi .maxl (.cons (.brw 2) .nil))) (.cons (.ret [2] (.lc (.tu [4, 5]) .zip (.cons (.var 0) (.cons (.var 2) .nil)) (.cmp .eq (.brw 5) (.brw 3)) (.var 4))) .nil)))⟩
def f_tops : Fn := ⟨2, 3, (.cons (.ret [] (.lc (.nm 2) .seq (.cons (.call "on_top" (.cons (.var 0) (.cons (.var 1) .nil))) .nil) (.cst (.bool true)) (.call "slope_of" (.cons (.var 2) .nil)))) .nil)⟩
def f__law_level_at : Fn := ⟨2, 6, (.cons (.unp [4, 5] [] (.var 1)) (.cons (.asg 2 [] (.bin .add (.bin .mul (.bin .mul (.idx (.brw 0) (.cst (.int 0))) (.idx (.brw 4) (.cst (.int 0)))) (.idx (.brw 5) (.cst (.int 1)))) (.bin .mul (.bin .mul (.idx (.brw 0) (.cst (.int 1))) (.idx (.brw 5) (.cst (.int 0)))) (.idx (.brw 4) (.cst (.int 1)))))) (.cons (.asg 3 [] (.bin .mul (.idx (.brw 4) (.cst (.int 1))) (.idx (.brw 5) (.cst (.int 1))))) (.cons (.ret [] (.tup (.cons (.bin .add (.bin .mul (.brw 2) (.idx (.idx (.brw 0) (.cst (.int 2))) (.cst (.int 1)))) (.bin .mul (.idx (.idx (.brw 0) (.cst (.int 2))) (.cst (.int 0))) (.brw 3))) (.cons (.bin .mul (.brw 3) (.idx (.idx (.brw 0) (.cst (.int 2))) (.cst (.int 1)))) .nil)))) .nil))))⟩
def f__law_under : Fn := ⟨2, 2, (.cons (.ret [] (.cmp .lt (.bin .mul (.idx (.brw 0) (.cst (.int 0))) (.idx (.brw 1) (.cst (.int 1)))) (.bin .mul (.idx (.brw 1) (.cst (.int 0))) (.idx (.brw 0) (.cst (.int 1)))))) .nil)⟩
def f__law_tops_by : Fn := ⟨2, 7, (.cons (.asg 2 [] (.lc (.nm 5) .seq (.cons (.var 0) .nil) (.cst (.bool true)) (.call "_law_level_at" (.cons (.var 5) (.cons (.var 1) .nil))))) (.cons (.asg 3 [] (.idx (.brw 2) (.cst (.int 0)))) (.cons (.for_ (.nm 4) .seq [2] (.cons (.var 2) .nil) (.cons (.iff [] (.call "_law_under" (.cons (.var 3) (.cons (.var 4) .nil))) (.cons (.asg 3 [] (.var 4)) .nil) .nil) .nil)) (.cons (.ret [] (.lc (.nm 6) .range (.cons (.bi .len (.cons (.brw 0) .nil)) .nil) (.not (.call "_law_under" (.cons (.idx (.brw 2) (.brw 6)) (.cons (.var 3) .nil)))) (.idx (.brw 0) (.brw 6)))) .nil))))⟩
def f__law_whole : Fn := ⟨1, 1, (.cons (.ret [] (.and (.isi .int (.brw 0)) (.not (.isi .bool (.brw 0))))) .nil)⟩
def f_law : Fn := ⟨1, 10, (.cons (.asg 0 [0] (.call "_law_stirred" (.cons (.var 0) .nil))) (.cons (.asg 1 [0] (.call "_law_cell_at" (.cons (.var 0) (.cons (.cst (.int 0)) .nil)))) (.cons (.asg 2 [] (.call "_law_roof_by" (.cons (.var 1) (.cons (.sl (.brw 0) (.cons (.cst (.int 4)) .nil) (.cons (.cst (.int 28)) .nil)) (.cons (.cst (.int 10)) (.cons (.idx (.tup (.cons (.cst (.int 9)) (.cons (.cst (.int 5)) (.cons (.cst (.int 3)) .nil)))) (.bin .mod (.bin .fdiv (.brw 1) (.cst (.int 12))) (.cst (.int 3)))) .nil)))))) (.cons (.asg 3 [2, 0] (.call "_law_point_by" (.cons (.var 2) (.cons (.call "_law_cell_at" (.cons (.var 0) (.cons (.cst (.int 1)) .nil))) (.cons (.call "_law_cell_at" (.cons (.var 0) (.cons (.cst (.int 2)) .nil))) .nil))))) (.cons (.asg 4 [2] (.lc (.nm 9) .seq (.cons (.call "_law_tops_by" (.cons (.var 2) (.cons (.var 3) .nil))) .nil) (.cst (.bool true)) (.tup (.cons (.idx (.brw 9) (.cst (.int 0))) (.cons (.idx (.brw 9) (.cst (.int 1))) .nil))))) (.cons (.asg 5 [] (.bi .list (.cons (.brw 2) .nil))) (.cons (.for_ (.nm 6) .range [] (.cons (.cst (.int 2)) .nil) (.cons (.asg 7 [5] (.call "tops" (.cons (.var 5) (.cons (.var 3) .nil)))) (.cons (.iff [] (.or (.not (.isi .list (.brw 7))) (.cmp .ne (.brw 7) (.brw 4))) (.cons (.ret [] (.cst (.bool false))) .nil) .nil) (.cons (.forc 8 7 (.cons (.iff [] (.or (.not (.isi .tuple (.brw 8))) (.or (.not (.call "_law_whole" (.cons (.idx (.brw 8) (.cst (.int 0))) .nil))) (.not (.call "_law_whole" (.cons (.idx (.brw 8) (.cst (.int 1))) .nil))))) (.cons (.ret [] (.cst (.bool false))) .nil) .nil) .nil)) (.cons (.app 7 [] (.tup (.cons (.cst (.int 0)) (.cons (.cst (.int 0)) .nil)))) .nil))))) (.cons (.ret [] (.cmp .eq (.brw 5) (.brw 2))) .nil))))))))⟩
def tab : List (Str × Fn) := [("law", f_law), ("_law_whole", f__law_whole), ("_law_tops_by", f__law_tops_by), ("_law_under", f__law_under), ("_law_level_at", f__law_level_at), ("tops", f_tops), ("on_top", f_on_top), ("levels", f_levels), ("scaled", f_scaled), ("common_bottom", f_common_bottom), ("multiple", f_multiple), ("divisor", f_divisor), ("slope_of", f_slope_of), ("_law_point_by", f__law_point_by), ("_law_crossing", f__law_crossing), ("_law_roof_by", f__law_roof_by), ("_law_height_by", f__law_height_by), ("_law_low", f__law_low), ("_law_stirred", f__law_stirred), ("_law_cell_at", f__law_cell_at)]
theorem tab_ok : tableOk tab = true := by kernel_rfl
end K07

set_option Elab.async false
set_option linter.all false
set_option maxRecDepth 100000
/-! Lb: laws of the evaluator. -/
namespace Pv
open PySem PySem.W
abbrev P := Int × Int
def tp (p : P) : D := .tuple [.int p.1, .int p.2]
theorem tp_toD : tp = (Datum.toD : P → D) := rfl
def bd0 (n : Nat) (x : Int) : Prop := x.natAbs < 2 ^ n
theorem bd0_mono {a b : Nat} {x : Int} (h : bd0 a x) (k : a ≤ b) : bd0 b x := Nat.lt_of_lt_of_le h (Nat.pow_le_pow_right (by decide) k)
theorem bd0_add {a b : Nat} {x y : Int} (h : bd0 a x) (k : bd0 b y) : bd0 (max a b + 1) (x + y) := by
  have h1 := bd0_mono h (Nat.le_max_left a b)
  have h2 := bd0_mono k (Nat.le_max_right a b)
  unfold bd0 at *
  rw [Nat.pow_succ]
  omega
theorem bd0_neg {a : Nat} {x : Int} (h : bd0 a x) : bd0 a (-x) := by unfold bd0 at *; omega
theorem bd0_mul {a b : Nat} {x y : Int} (h : bd0 a x) (k : bd0 b y) : bd0 (a + b) (x * y) := by
  unfold bd0 at *
  rw [Int.natAbs_mul, Nat.pow_add]
  exact Nat.mul_lt_mul'' h k
theorem bd0_fmod {a : Nat} {x m : Int} (h : bd0 a m) (k : 0 < m) : bd0 a (x.fmod m) := by
  unfold bd0 at *
  have h1 := Int.fmod_nonneg_of_pos x k
  have h2 := Int.fmod_lt_of_pos x k
  omega
theorem bd0_fdiv {a : Nat} {x m : Int} (h : bd0 a x) (k : 0 < m) : bd0 a (x.fdiv m) := by
  have e : m * x.fdiv m + x.fmod m = x := by rw [Int.fmod_def]; omega
  have h1 := Int.fmod_nonneg_of_pos x k
  have h2 := Int.fmod_lt_of_pos x k
  unfold bd0 at *
  generalize hq : x.fdiv m = q at *
  have : q.natAbs ≤ x.natAbs := by
    rcases Int.lt_or_le q 0 with z | z
    · have h3 : m * q ≤ 1 * q := by
        rw [Int.mul_comm m q, Int.mul_comm 1 q]
        exact Int.mul_le_mul_of_nonpos_left (by omega) (by omega)
      have h4 : m * q + x.fmod m = x := e
      -- x ≤ m q + m - 1 = m (q+1) - 1
      have h5 : m * (q + 1) ≤ 1 * (q + 1) := by
        rw [Int.mul_comm m, Int.mul_comm 1]
        exact Int.mul_le_mul_of_nonpos_left (by omega) (by omega)
      rw [Int.mul_add] at h5
      omega
    · have h3 : 1 * q ≤ m * q := Int.mul_le_mul_of_nonneg_right (by omega) z
      omega
  omega
theorem bd0_log {a : Nat} {x : Int} (h : bd0 a x) : x.natAbs.log2 ≤ a := by
  unfold bd0 at h
  by_cases z : x.natAbs = 0
  · rw [z]; exact Nat.zero_le _
  · exact Nat.le_of_lt ((Nat.log2_lt z).mpr h)
/-- fewer than n bits -/
structure bd (n : Nat) (x : Int) : Prop where
  h : bd0 n x
theorem bd_mono {a b : Nat} {x : Int} (h : bd a x) (k : a ≤ b) : bd b x := ⟨bd0_mono h.h k⟩
theorem bd_add {a b : Nat} {x y : Int} (h : bd a x) (k : bd b y) : bd (max a b + 1) (x + y) := ⟨bd0_add h.h k.h⟩
theorem bd_sub {a b : Nat} {x y : Int} (h : bd a x) (k : bd b y) : bd (max a b + 1) (x - y) := ⟨by rw [Int.sub_eq_add_neg]; exact bd0_add h.h (bd0_neg k.h)⟩
theorem bd_neg {a : Nat} {x : Int} (h : bd a x) : bd a (-x) := ⟨bd0_neg h.h⟩
theorem bd_mul {a b : Nat} {x y : Int} (h : bd a x) (k : bd b y) : bd (a + b) (x * y) := ⟨bd0_mul h.h k.h⟩
theorem bd_fmod {a : Nat} {x m : Int} (h : bd a m) (k : 0 < m) : bd a (x.fmod m) := ⟨bd0_fmod h.h k⟩
theorem bd_fdiv {a : Nat} {x m : Int} (h : bd a x) (k : 0 < m) : bd a (x.fdiv m) := ⟨bd0_fdiv h.h k⟩
theorem bd_of {n : Nat} {x : Int} (h : x.natAbs < 2 ^ n) : bd n x := ⟨h⟩
theorem bd.lt {n : Nat} {x : Int} (h : bd n x) : x.natAbs < 2 ^ n := h.h
theorem log_bd {a : Nat} {x : Int} (h : bd a x) : x.natAbs.log2 ≤ a := bd0_log h.h
theorem mulOk_bd {a b : Nat} {x y : Int} (h : bd a x) (k : bd b y) (s : a + b ≤ 999999) : mulOk x y = true := by
  unfold mulOk
  have := log_bd h
  have := log_bd k
  rw [decide_eq_true (by omega)]; rfl
theorem mulOk_r {b : Nat} {x y : Int} (k : bd b y) (s : b ≤ 64) : mulOk x y = true := by
  have := (bd_mono k s).lt
  unfold mulOk
  rw [decide_eq_true this, Bool.or_true, Bool.or_true]
theorem mulOk_l {a : Nat} {x y : Int} (k : bd a x) (s : a ≤ 64) : mulOk x y = true := by
  have := (bd_mono k s).lt
  unfold mulOk
  rw [decide_eq_true this, Bool.true_or, Bool.or_true]
theorem divOk_bd {a : Nat} {y : Int} (h : bd a y) (z : y ≠ 0) (s : a ≤ 8999) : divOk y = true := by
  unfold divOk
  have := log_bd h
  rw [decide_eq_true z, decide_eq_true (by omega : y.natAbs.log2 < 9000)]; rfl
/-! ### walks -/
theorem forGo_inv {t : D → Rho → Option Rho} {b : Rho → Option Out} (I : Nat → Rho → Prop) : ∀ {xs : List D} {k : Nat} {ρ : Rho}, I k ρ → (∀ i d ρ, xs[i]? = some d → I (k + i) ρ → ∃ ρ1 ρ2, t d ρ = some ρ1 ∧ b ρ1 = some (.next ρ2) ∧ I (k + i + 1) ρ2) → ∃ ρ', forGo t b xs ρ = some (.next ρ') ∧ I (k + xs.length) ρ'
  | [], k, ρ, h, _ => ⟨ρ, rfl, h⟩
  | d :: ds, k, ρ, h, st => by
    obtain ⟨ρ1, ρ2, e1, e2, h2⟩ := st 0 d ρ rfl h
    obtain ⟨ρ', e3, h3⟩ := forGo_inv I (xs := ds) (k := k + 1) (ρ := ρ2) h2 fun i d' ρ' hd hi => by
      have := st (i + 1) d' ρ' (by simpa using hd) (by rw [show k + (i + 1) = k + 1 + i by omega]; exact hi)
      rw [show k + (i + 1) + 1 = k + 1 + i + 1 by omega] at this
      exact this
    refine ⟨ρ', ?_, by rw [List.length_cons, show k + (ds.length + 1) = k + 1 + ds.length by omega]; exact h3⟩
    simp only [forGo, e1, e2, Option.bind_some, e3]
theorem forGo_const {t : D → Rho → Option Rho} {b : Rho → Option Out} (I : Rho → Prop) {xs : List D} {ρ : Rho} (h : I ρ) (st : ∀ d ρ, d ∈ xs → I ρ → ∃ ρ1 ρ2, t d ρ = some ρ1 ∧ b ρ1 = some (.next ρ2) ∧ I ρ2) : ∃ ρ', forGo t b xs ρ = some (.next ρ') ∧ I ρ' := by
  obtain ⟨ρ', e, i⟩ := forGo_inv (t := t) (b := b) (fun _ => I) (xs := xs) (k := 0) h fun i d ρ hd hi => st d ρ (List.mem_of_getElem? hd) hi
  exact ⟨ρ', e, i⟩
/-! ### subscripts -/
theorem atI_nat {α : Type} {xs : List α} {k : Nat} {x : α} (h : xs[k]? = some x) : L2.atI xs (k : Int) = some x := by
  have hk := (List.getElem?_eq_some_iff.mp h).1
  unfold L2.atI L2.ixN
  rw [if_pos (by omega), if_pos (by omega)]
  simpa using h
theorem atI_neg {α : Type} {xs : List α} {k : Nat} {x : α} (h : xs[xs.length - k]? = some x) (hk : 0 < k) (hl : k ≤ xs.length) : L2.atI xs (-(k : Int)) = some x := by
  unfold L2.atI L2.ixN
  rw [if_neg (by omega), if_pos (by omega)]
  simp only [Option.bind_some]
  have : (-(k : Int) + (xs.length : Int)).toNat = xs.length - k := by omega
  rw [this]; exact h
/-! ### data with a type -/
class Lay (α : Type) [DecidableEq α] [Datum α] : Prop where
  lay : ∀ a : α, (Datum.toD a : D).canLay0 = true
instance : Lay Int := ⟨fun _ => rfl⟩
instance : Lay Bool := ⟨fun _ => rfl⟩
section
variable {α β : Type} [DecidableEq α] [Datum α] [Lay α] [DecidableEq β] [Datum β] [Lay β]
theorem layAll_map : ∀ xs : List α, PyData.canLayAll0 (xs.map Datum.toD) = true
  | [] => rfl
  | x :: xs => by rw [List.map_cons, PyData.canLayAll0, Lay.lay x, layAll_map xs]; rfl
instance : Lay (α × β) := ⟨fun p => by
  show PyData.canLay0 (.tuple [_, _]) = true
  simp only [PyData.canLay0, PyData.canLayAll0, Lay.lay, Bool.and_self]⟩
instance : Lay (List α) := ⟨fun p => by
  show PyData.canLay0 (.list _) = true
  simp only [PyData.canLay0, layAll_map]⟩
instance : Lay (Tup α) := ⟨fun p => by
  show PyData.canLay0 (.tuple _) = true
  simp only [PyData.canLay0, layAll_map]⟩
theorem shaped_d (hd : Datum.depth α ≤ 64) (x : α) : SeqAt.shaped (Datum.toD x) = true := by
  unfold SeqAt.shaped
  rw [Lay.lay x, decide_eq_true (Nat.le_trans (Datum.depth_le x) hd)]; rfl
theorem cm_eq (hd : Datum.depth α ≤ 64) (x y : α) : cm .eq (Datum.toD x) (Datum.toD y) = some (decide (x = y)) := by
  simp only [cm, eqOk, shaped_d hd, Bool.and_self, if_true, Datum.eqv]
theorem cm_ne (hd : Datum.depth α ≤ 64) (x y : α) : cm .ne (Datum.toD x) (Datum.toD y) = some (!decide (x = y)) := by
  simp only [cm, eqOk, shaped_d hd, Bool.and_self, if_true, Datum.eqv]
theorem cm_eq_l (hd : Datum.depth α ≤ 63) (x y : List α) : cm .eq (.list (x.map Datum.toD)) (.list (y.map Datum.toD)) = some (decide (x = y)) := cm_eq (α := List α) (Nat.succ_le_succ hd) x y
theorem cm_ne_l (hd : Datum.depth α ≤ 63) (x y : List α) : cm .ne (.list (x.map Datum.toD)) (.list (y.map Datum.toD)) = some (!decide (x = y)) := cm_ne (α := List α) (Nat.succ_le_succ hd) x y
theorem cm_in (hd : Datum.depth α ≤ 63) (x : α) (ys : List α) : cm .inn (Datum.toD x) (.list (ys.map Datum.toD)) = some (decide (x ∈ ys)) := by
  have h : SeqAt.shaped (.list (ys.map Datum.toD)) = true := shaped_d (α := List α) (Nat.succ_le_succ hd) ys
  simp only [cm, inO, eqOk, shaped_d (Nat.le_trans hd (by decide)) x, h, Bool.and_self, if_true, any_datum]
theorem cm_nin (hd : Datum.depth α ≤ 63) (x : α) (ys : List α) : cm .nin (Datum.toD x) (.list (ys.map Datum.toD)) = some (!decide (x ∈ ys)) := by
  have := cm_in hd x ys
  simp only [cm] at this
  simp only [cm, this, Option.map_some]
end
section
variable {α : Type} [DecidableEq α] [DatumOrd α]
theorem alikeOk_d (hd : Datum.depth α ≤ 64) (xs : List α) : alikeOk (xs.map Datum.toD) = true := by
  unfold alikeOk
  simp only [Bool.and_eq_true, List.all_eq_true, decide_eq_true_eq, Bool.not_eq_true']
  constructor
  · intro x hx y hy
    obtain ⟨a, _, rfl⟩ := List.mem_map.mp hx
    obtain ⟨b, _, rfl⟩ := List.mem_map.mp hy
    exact DatumOrd.alike a b
  · intro x hx
    obtain ⟨a, _, rfl⟩ := List.mem_map.mp hx
    refine ⟨Nat.le_trans (Datum.depth_le a) hd, ?_⟩
    have := DatumOrd.notNone a
    revert this
    generalize (Datum.toD a : D) = d
    cases d <;> simp [isNone]
theorem minO_d (hd : Datum.depth α ≤ 64) (x : α) (xs : List α) : minO ((x :: xs).map Datum.toD) = some (Datum.toD (minOf x xs)) := by
  have := alikeOk_d hd (x :: xs)
  rw [List.map_cons] at this ⊢
  simp only [minO, this, if_true, minD_map]
theorem maxO_d (hd : Datum.depth α ≤ 64) (x : α) (xs : List α) : maxO ((x :: xs).map Datum.toD) = some (Datum.toD (maxOf x xs)) := by
  have := alikeOk_d hd (x :: xs)
  rw [List.map_cons] at this ⊢
  simp only [maxO, this, if_true, maxD_map]
end
end Pv

set_option Elab.async false
set_option linter.all false
set_option maxRecDepth 100000
/-! Lc: the evaluator, step by step, without anything under a binder. -/
namespace Pv
section
variable (Φ : Ph)
def varX : Option Slot → Option (D × Os)
  | some (some (d, false)) => some (d, .z)
  | some (some (d, true)) => if scal d then some (d, .z) else none
  | _ => none
def brwX : Option Slot → Option (D × Os)
  | some (some (d, _)) => some (d, .b)
  | _ => none
def binX (o : Op2) : Option (D × Os) → Option (D × Os) → Option (D × Os)
  | some x, some y => op2 o x.1 y.1
  | _, _ => none
def negX : Option (D × Os) → Option (D × Os)
  | some (.int i, _) => some (.int (-i), .z)
  | _ => none
def notX : Option (D × Os) → Option (D × Os)
  | some (.bool i, _) => some (.bool (!i), .z)
  | _ => none
def cmpX (o : Cm) : Option (D × Os) → Option (D × Os) → Option (D × Os)
  | some x, some y => (cm o x.1 y.1).map fun k => (.bool k, .z)
  | _, _ => none
def boX : Option (D × Os) → Option Bool
  | some (.bool b, _) => some b
  | _ => none
def andX (b : C) (ρ : Rho) : Option Bool → Option (D × Os)
  | some true => (boX (ev Φ b ρ)).map fun l => (.bool l, .z)
  | some false => some (.bool false, .z)
  | _ => none
def orX (b : C) (ρ : Rho) : Option Bool → Option (D × Os)
  | some false => (boX (ev Φ b ρ)).map fun l => (.bool l, .z)
  | some true => some (.bool true, .z)
  | _ => none
def iteX (a b : C) (ρ : Rho) : Option Bool → Option (D × Os)
  | some true => ev Φ a ρ
  | some false => ev Φ b ρ
  | _ => none
def retX : Option (D × Bool) → Option (D × Os)
  | some (d, true) => some (d, .f)
  | some (d, false) => some (d, .z)
  | _ => none
def callX (f : PySem.Str) : Option (List D) → Option (D × Os)
  | some ds => retX (Φ f ds)
  | _ => none
def biX (f : Bi) : Option (List D) → Option (D × Os)
  | some ds => biO f ds
  | _ => none
def isiX (t : Ty) : Option (D × Os) → Option (D × Os)
  | some x => (isTy t x.1).map fun k => (.bool k, .z)
  | _ => none
def idxX : Option (D × Os) → Option (D × Os) → Option (D × Os)
  | some x, some y => (idxO x.1 y.1).map (·, .z)
  | _, _ => none
def slX : Option (D × Os) → Option (Option Int) → Option (Option Int) → Option (D × Os)
  | some x, some l, some h => slO x.1 l h
  | _, _, _ => none
def tupX : Option (List D) → Option (D × Os)
  | some ds => some (.tuple ds, .z)
  | _ => none
def lstX : Option (List D) → Option (D × Os)
  | some ds => some (.list ds, .f)
  | _ => none
def iterX (k : Ik) : Option (List D) → Option (List D)
  | some ds => iterO k ds
  | _ => none
def lcGoX (t : Tg) (cond elt : C) (ρ : Rho) (xs : List D) : Option (List D) := lcGo t (fun ρ => ev Φ cond ρ) (fun ρ => ev Φ elt ρ) ρ xs
def lcX (t : Tg) (cond elt : C) (ρ : Rho) : Option (List D) → Option (D × Os)
  | some xs => if xs.length ≤ lim then lstX (lcGoX Φ t cond elt ρ xs) else none
  | _ => none
def consX : Option (D × Os) → Option (List D) → Option (List D)
  | some (d, .z), some ds => some (d :: ds)
  | some (d, .f), some ds => some (d :: ds)
  | _, _ => none
def consB : Option (D × Os) → Option (List D) → Option (List D)
  | some (d, _), some ds => some (d :: ds)
  | _, _ => none
def oX : Option (D × Os) → Option (Option Int)
  | some (.int i, _) => some (some i)
  | _ => none
variable {ρ : Rho} {a b c : C}
theorem ev_var {i : Nat} : ev Φ (.var i) ρ = varX ρ[i]? := by
  rw [ev]
  cases ρ[i]? with
  | none => rfl
  | some s =>
    cases s with
    | none => rfl
    | some p => obtain ⟨d, o⟩ := p; cases o <;> rfl
theorem ev_brw {i : Nat} : ev Φ (.brw i) ρ = brwX ρ[i]? := by
  rw [ev]
  cases ρ[i]? with
  | none => rfl
  | some s => cases s <;> rfl
theorem ev_cst {d : D} : ev Φ (.cst d) ρ = some (d, .z) := by rw [ev]
theorem ev_bin {o : Op2} : ev Φ (.bin o a b) ρ = binX o (ev Φ a ρ) (ev Φ b ρ) := by
  rw [ev]; cases ev Φ a ρ <;> cases ev Φ b ρ <;> rfl
theorem ev_neg : ev Φ (.neg a) ρ = negX (ev Φ a ρ) := by
  rw [ev]
  cases ev Φ a ρ with
  | none => rfl
  | some r => obtain ⟨d, o⟩ := r; cases d <;> rfl
theorem ev_not : ev Φ (.not a) ρ = notX (ev Φ a ρ) := by
  rw [ev]
  cases ev Φ a ρ with
  | none => rfl
  | some r => obtain ⟨d, o⟩ := r; cases d <;> rfl
theorem ev_cmp {o : Cm} : ev Φ (.cmp o a b) ρ = cmpX o (ev Φ a ρ) (ev Φ b ρ) := by
  rw [ev]; cases ev Φ a ρ <;> cases ev Φ b ρ <;> rfl
theorem bo_eq (o : Option (D × Os)) : (o.bind fun r => asB r.1) = boX o := by
  cases o with
  | none => rfl
  | some r => obtain ⟨d, o⟩ := r; cases d <;> rfl
theorem ev_and : ev Φ (.and a b) ρ = andX Φ b ρ (boX (ev Φ a ρ)) := by
  rw [ev]
  cases ev Φ a ρ with
  | none => rfl
  | some r =>
    obtain ⟨d, o⟩ := r
    cases d with
    | bool k =>
      cases k with
      | false => rfl
      | true =>
        show ((ev Φ b ρ).bind fun y => (asB y.1).map fun l => ((.bool l : D), Os.z)) = (boX (ev Φ b ρ)).map fun l => ((.bool l : D), Os.z)
        rw [← bo_eq]
        cases ev Φ b ρ <;> rfl
    | _ => rfl
theorem ev_or : ev Φ (.or a b) ρ = orX Φ b ρ (boX (ev Φ a ρ)) := by
  rw [ev]
  cases ev Φ a ρ with
  | none => rfl
  | some r =>
    obtain ⟨d, o⟩ := r
    cases d with
    | bool k =>
      cases k with
      | true => rfl
      | false =>
        show ((ev Φ b ρ).bind fun y => (asB y.1).map fun l => ((.bool l : D), Os.z)) = (boX (ev Φ b ρ)).map fun l => ((.bool l : D), Os.z)
        rw [← bo_eq]
        cases ev Φ b ρ <;> rfl
    | _ => rfl
theorem ev_ite : ev Φ (.ite c a b) ρ = iteX Φ a b ρ (boX (ev Φ c ρ)) := by
  rw [ev]
  cases ev Φ c ρ with
  | none => rfl
  | some r =>
    obtain ⟨d, o⟩ := r
    cases d with
    | bool k => cases k <;> rfl
    | _ => rfl
theorem ev_call {f : PySem.Str} : ev Φ (.call f a) ρ = callX Φ f (evs Φ a ρ) := by
  rw [ev]
  cases evs Φ a ρ with
  | none => rfl
  | some ds =>
    show (Φ f ds).map _ = retX (Φ f ds)
    cases Φ f ds with
    | none => rfl
    | some r => obtain ⟨d, o⟩ := r; cases o <;> rfl
theorem ev_bi {f : Bi} : ev Φ (.bi f a) ρ = biX f (evb Φ a ρ) := by rw [ev]; cases evb Φ a ρ <;> rfl
theorem ev_isi {t : Ty} : ev Φ (.isi t a) ρ = isiX t (ev Φ a ρ) := by rw [ev]; cases ev Φ a ρ <;> rfl
theorem ev_idx : ev Φ (.idx a b) ρ = idxX (ev Φ a ρ) (ev Φ b ρ) := by rw [ev]; cases ev Φ a ρ <;> cases ev Φ b ρ <;> rfl
theorem ev_sl : ev Φ (.sl a b c) ρ = slX (ev Φ a ρ) (evo Φ b ρ) (evo Φ c ρ) := by rw [ev]; cases ev Φ a ρ <;> cases evo Φ b ρ <;> cases evo Φ c ρ <;> rfl
theorem ev_tup : ev Φ (.tup a) ρ = tupX (evs Φ a ρ) := by rw [ev]; cases evs Φ a ρ <;> rfl
theorem ev_lst : ev Φ (.lst a) ρ = lstX (evs Φ a ρ) := by rw [ev]; cases evs Φ a ρ <;> rfl
theorem ev_lc {t : Tg} {k : Ik} : ev Φ (.lc t k a b c) ρ = lcX Φ t b c ρ (iterX k (evs Φ a ρ)) := by
  rw [ev]
  cases evs Φ a ρ with
  | none => rfl
  | some ds =>
    show (iterO k ds).bind _ = lcX Φ t b c ρ (iterO k ds)
    cases iterO k ds with
    | none => rfl
    | some xs =>
      show (if xs.length ≤ lim then _ else _) = (if xs.length ≤ lim then _ else _)
      split
      · show (lcGo t (fun ρ => ev Φ b ρ) (fun ρ => ev Φ c ρ) ρ xs).map _ = lstX (lcGo t (fun ρ => ev Φ b ρ) (fun ρ => ev Φ c ρ) ρ xs)
        cases lcGo t (fun ρ => ev Φ b ρ) (fun ρ => ev Φ c ρ) ρ xs <;> rfl
      · rfl
theorem evs_nil : evs Φ .nil ρ = some [] := by rw [evs]
theorem evs_cons : evs Φ (.cons a b) ρ = consX (ev Φ a ρ) (evs Φ b ρ) := by
  rw [evs]
  cases ev Φ a ρ with
  | none => rfl
  | some r => obtain ⟨d, o⟩ := r; cases o <;> cases evs Φ b ρ <;> rfl
theorem evb_nil : evb Φ .nil ρ = some [] := by rw [evb]
theorem evb_cons : evb Φ (.cons a b) ρ = consB (ev Φ a ρ) (evb Φ b ρ) := by
  rw [evb]
  cases ev Φ a ρ with
  | none => rfl
  | some r => obtain ⟨d, o⟩ := r; cases evb Φ b ρ <;> rfl
theorem evo_nil : evo Φ .nil ρ = some none := by rw [evo]
theorem evo_cons : evo Φ (.cons a b) ρ = oX (ev Φ a ρ) := by
  rw [evo]
  cases ev Φ a ρ with
  | none => rfl
  | some r => obtain ⟨d, o⟩ := r; cases d <;> rfl
/-! statements -/
noncomputable def thn (r : C) : Option Out → Option Out
  | some (.next ρ') => exec Φ r ρ'
  | some (.brk ρ') => some (.brk ρ')
  | some (.ret d w) => some (.ret d w)
  | none => none
def asgX (i : Nat) (F : List Nat) (ρ : Rho) : Option (D × Os) → Option Out
  | some (d, .z) => some (.next ((aftR F ρ (d, .z)).set i (some (d, false))))
  | some (d, .f) => some (.next ((aftR F ρ (d, .f)).set i (some (d, true))))
  | _ => none
def unpX (is : List Nat) (ρ : Rho) : Option (D × Os) → Option Out
  | some (.tuple ds, _) => (setMany is ds ρ).map .next
  | some (.list ds, _) => (setMany is ds ρ).map .next
  | _ => none
def parX (i j : Nat) (ρ : Rho) : Option (List D) → Option Out
  | some [x, y] => some (.next ((ρ.set i (some (x, false))).set j (some (y, false))))
  | _ => none
def augX (i : Nat) (ρ : Rho) : Option Int → Option (D × Os) → Option Out
  | some a, some (.int b, _) => some (.next (ρ.set i (some (.int (a + b), false))))
  | _, _ => none
def retvX : Option Slot → Option Out
  | some (some (d, o)) => some (.ret d o)
  | _ => none
def rtX : Option (D × Os) → Option Out
  | some (d, .z) => some (.ret d false)
  | some (d, .f) => some (.ret d true)
  | _ => none
noncomputable def iffX (t e : C) (ρ : Rho) : Option Bool → Option Out
  | some true => exec Φ t ρ
  | some false => exec Φ e ρ
  | none => none
noncomputable def forX (t : Tg) (body : C) (ρ : Rho) : Option (List D) → Option Out
  | some xs => forGo (bindT t) (fun ρ => exec Φ body ρ) xs ρ
  | none => none
noncomputable def whX (c body : C) (ρ : Rho) : Option Out := wh (fun ρ => boX (ev Φ c ρ)) (fun ρ => exec Φ body ρ) ρ
def putX (i : Nat) (ρ : Rho) (d : D) : Option (List D) → Option Out
  | some xs => if xs.length < lim then some (setL ρ i (xs ++ [d])) else none
  | none => none
def ownX : Option Slot → Option (List D)
  | some (some (.list xs, true)) => some xs
  | _ => none
def appX (i : Nat) (F : List Nat) (ρ : Rho) : Option (D × Os) → Option Out
  | some (d, .z) => putX i (aft F ρ d) d (ownX (aft F ρ d)[i]?)
  | some (d, .f) => putX i (aft F ρ d) d (ownX (aft F ρ d)[i]?)
  | _ => none
theorem own_eq {i : Nat} : ownL ρ i = ownX ρ[i]? := by
  unfold ownL
  cases ρ[i]? with
  | none => rfl
  | some s =>
    cases s with
    | none => rfl
    | some p => obtain ⟨d, o⟩ := p; cases d <;> cases o <;> rfl
theorem ex_nil : exec Φ .nil ρ = some (.next ρ) := by rw [exec]
theorem ex_pass : exec Φ .pass ρ = some (.next ρ) := by rw [exec]
theorem ex_brk : exec Φ .brk ρ = some (.brk ρ) := by rw [exec]
theorem ex_cons : exec Φ (.cons a b) ρ = thn Φ b (exec Φ a ρ) := by
  rw [exec]
  cases exec Φ a ρ with
  | none => rfl
  | some o => cases o <;> rfl
theorem ex_asg {i : Nat} {F : List Nat} : exec Φ (.asg i F a) ρ = asgX i F ρ (ev Φ a (frz F ρ)) := by
  rw [exec]
  cases ev Φ a (frz F ρ) with
  | none => rfl
  | some r => obtain ⟨d, o⟩ := r; cases o <;> rfl
theorem ex_unp {is : List Nat} {F : List Nat} : exec Φ (.unp is F a) ρ = unpX is (frz F ρ) (ev Φ a (frz F ρ)) := by
  rw [exec]
  cases ev Φ a (frz F ρ) with
  | none => rfl
  | some r => obtain ⟨d, o⟩ := r; cases d <;> rfl
theorem ex_par {i j : Nat} : exec Φ (.par i j a) ρ = parX i j ρ (evs Φ a ρ) := by
  rw [exec]
  cases evs Φ a ρ with
  | none => rfl
  | some ds =>
    match ds with
    | [] => rfl
    | [_] => rfl
    | [_, _] => rfl
    | _ :: _ :: _ :: _ => rfl
theorem ex_aug {i : Nat} : exec Φ (.aug i a) ρ = augX i ρ (intAt ρ i) (ev Φ a ρ) := by
  rw [exec]
  cases intAt ρ i with
  | none => rfl
  | some k =>
    cases ev Φ a ρ with
    | none => rfl
    | some r => obtain ⟨d, o⟩ := r; cases d <;> rfl
theorem ex_ret {F : List Nat} : exec Φ (.ret F a) ρ = rtX (ev Φ a (frz F ρ)) := by
  rw [exec]
  cases ev Φ a (frz F ρ) with
  | none => rfl
  | some r => obtain ⟨d, o⟩ := r; cases o <;> rfl
theorem ex_retv {i : Nat} : exec Φ (.retv i) ρ = retvX ρ[i]? := by
  rw [exec]
  cases ρ[i]? with
  | none => rfl
  | some s => cases s <;> rfl
theorem ex_iff {F : List Nat} : exec Φ (.iff F c a b) ρ = iffX Φ a b ρ (boX (ev Φ c (frz F ρ))) := by
  rw [exec]
  cases ev Φ c (frz F ρ) with
  | none => rfl
  | some r =>
    obtain ⟨d, o⟩ := r
    cases d with
    | bool k => cases k <;> rfl
    | _ => rfl
theorem ex_for {t : Tg} {k : Ik} {F : List Nat} : exec Φ (.for_ t k F a b) ρ = forX Φ t b (frz F ρ) (iterX k (evs Φ a (frz F ρ))) := by
  rw [exec]
  cases evs Φ a (frz F ρ) with
  | none => rfl
  | some ds =>
    show (iterO k ds).bind _ = forX Φ t b (frz F ρ) (iterO k ds)
    cases iterO k ds <;> rfl
noncomputable def forcX (j : Nat) (body : C) (ρ : Rho) : Option Slot → Option Out
  | some (some (.list xs, true)) => forX Φ (.nm j) body ρ (some xs)
  | _ => none
theorem ex_forc {j i : Nat} : exec Φ (.forc j i a) ρ = forcX Φ j a ρ ρ[i]? := by
  rw [exec]
  cases ρ[i]? with
  | none => rfl
  | some s =>
    cases s with
    | none => rfl
    | some p => obtain ⟨d, o⟩ := p; cases d <;> cases o <;> rfl
theorem ex_whl : exec Φ (.whl a b) ρ = whX Φ a b ρ := by
  rw [exec]
  unfold whX
  congr 1
  funext ρ
  exact bo_eq _
theorem ex_app {i : Nat} {F : List Nat} : exec Φ (.app i F a) ρ = appX i F ρ (ev Φ a (frz F ρ)) := by
  rw [exec]
  cases ev Φ a (frz F ρ) with
  | none => rfl
  | some r =>
    obtain ⟨d, o⟩ := r
    have go : (ownL (aft F ρ d) i).bind (fun xs => if xs.length < lim then some (setL (aft F ρ d) i (xs ++ [d])) else none) = putX i (aft F ρ d) d (ownX (aft F ρ d)[i]?) := by
      rw [own_eq]
      cases ownX (aft F ρ d)[i]? <;> rfl
    cases o
    · exact go
    · exact go
    · rfl
def setkX (i : Nat) (ρ : Rho) (d : D) : Option (D × Os) → Option Out
  | some (k, _) => putO ρ i k d
  | none => none
def setiX (i : Nat) (F : List Nat) (ρ : Rho) (k : C) : Option (D × Os) → Option Out
  | some (d, .z) => setkX i (aft F ρ d) d (ev Φ k (aft F ρ d))
  | some (d, .f) => setkX i (aft F ρ d) d (ev Φ k (aft F ρ d))
  | _ => none
theorem ex_seti {i : Nat} {F : List Nat} {k : C} : exec Φ (.seti i F k a) ρ = setiX Φ i F ρ k (ev Φ a (frz F ρ)) := by
  rw [exec]
  cases ev Φ a (frz F ρ) with
  | none => rfl
  | some r =>
    obtain ⟨d, o⟩ := r
    have go : (ev Φ k (aft F ρ d)).bind (fun r => putO (aft F ρ d) i r.1 d) = setkX i (aft F ρ d) d (ev Φ k (aft F ρ d)) := by
      cases ev Φ k (aft F ρ d) <;> rfl
    cases o
    · exact go
    · exact go
    · rfl
theorem ev_dnew : ev Φ .dnew ρ = some (.dict [], .f) := by rw [ev]
theorem ev_dnewI : ev Φ .dnewI ρ = some (.dict [markI], .f) := by rw [ev]
def popX (i : Nat) (ρ : Rho) : Option (List D) → Option Out
  | some xs => if xs.isEmpty then none else some (setL ρ i xs.dropLast)
  | none => none
def mapX (i : Nat) (ρ : Rho) (f : List D → List D) : Option (List D) → Option Out
  | some xs => some (setL ρ i (f xs))
  | none => none
theorem ex_pop {i : Nat} : exec Φ (.pop i) ρ = popX i ρ (ownX ρ[i]?) := by
  rw [exec, own_eq]; cases ownX ρ[i]? <;> rfl
theorem ex_clr {i : Nat} : exec Φ (.clr i) ρ = mapX i ρ (fun _ => []) (ownX ρ[i]?) := by
  rw [exec, own_eq]; cases ownX ρ[i]? <;> rfl
theorem ex_revl {i : Nat} : exec Φ (.revl i) ρ = mapX i ρ (fun xs => xs.reverse) (ownX ρ[i]?) := by
  rw [exec, own_eq]; cases ownX ρ[i]? <;> rfl
theorem ev_f {fn : Fn} {args : List D} (h : args.length = fn.np) : evF Φ fn args = (exec Φ fn.body (init fn args)).bind outV := by unfold evF; rw [if_pos h]
end
theorem cm_lt (i j : Int) : cm .lt (.int i) (.int j) = some (decide (i < j)) := rfl
theorem cm_le (i j : Int) : cm .le (.int i) (.int j) = some (decide (i ≤ j)) := rfl
theorem cm_gt (i j : Int) : cm .gt (.int i) (.int j) = some (decide (j < i)) := rfl
theorem cm_ge (i j : Int) : cm .ge (.int i) (.int j) = some (decide (j ≤ i)) := rfl
theorem cm_eqi (i j : Int) : cm .eq (.int i) (.int j) = some (decide (i = j)) := cm_eq (α := Int) (by decide) i j
theorem cm_nei (i j : Int) : cm .ne (.int i) (.int j) = some (!decide (i = j)) := cm_ne (α := Int) (by decide) i j
theorem op_add (i j : Int) : op2 .add (.int i) (.int j) = some (.int (i + j), .z) := rfl
theorem op_sub (i j : Int) : op2 .sub (.int i) (.int j) = some (.int (i - j), .z) := rfl
theorem op_mul {i j : Int} (h : mulOk i j = true) : op2 .mul (.int i) (.int j) = some (.int (i * j), .z) := by simp [op2, asI, opI, h]
theorem op_fdiv {i j : Int} (h : divOk j = true) : op2 .fdiv (.int i) (.int j) = some (.int (i.fdiv j), .z) := by simp [op2, asI, opI, h]
theorem op_mod {i j : Int} (h : j ≠ 0) : op2 .mod (.int i) (.int j) = some (.int (i.fmod j), .z) := by simp [op2, asI, opI, h]
theorem op_cat {xs ys : List D} (h : xs.length + ys.length ≤ lim) : op2 .add (.list xs) (.list ys) = some (.list (xs ++ ys), .f) := by simp [op2, asL, catL, h]
theorem op_rep {xs : List D} {j : Int} (h : j.natAbs ≤ 1000) (k : xs.length * j.toNat ≤ lim) : op2 .mul (.list xs) (.int j) = some (.list (List.replicate j.toNat xs).flatten, .f) := by simp [op2, repL, h, k]
theorem ix_t0 (a : D) (r : List D) : idxO (.tuple (a :: r)) (.int 0) = some a := by simp [idxO, idxL, asI, L2.atI, L2.ixN]
theorem ix_t1 (a b : D) (r : List D) : idxO (.tuple (a :: b :: r)) (.int 1) = some b := by
  simp only [idxO, idxL, asI, L2.atI, L2.ixN, Option.bind_some, List.length_cons]
  rw [if_pos (by decide), if_pos (by omega)]; rfl
theorem ix_t2 (a b c : D) (r : List D) : idxO (.tuple (a :: b :: c :: r)) (.int 2) = some c := by
  simp only [idxO, idxL, asI, L2.atI, L2.ixN, Option.bind_some, List.length_cons]
  rw [if_pos (by decide), if_pos (by omega)]; rfl
theorem ix_l (xs : List D) (i : Int) : idxO (.list xs) (.int i) = L2.atI xs i := rfl
theorem ix_s (xs : List D) (i : Int) : idxO (scr xs) (.int i) = L2.atI xs i := rfl
theorem len_l (xs : List D) : biO .len [.list xs] = some (.int (xs.length : Nat), .z) := rfl
theorem len_t (xs : List D) : biO .len [.tuple xs] = some (.int (xs.length : Nat), .z) := rfl
theorem len_s (xs : List D) : biO .len [scr xs] = some (.int (xs.length : Nat), .z) := rfl
theorem xb_abs (i : Int) : biO .abs [.int i] = some (.int (i.natAbs : Nat), .z) := by
  have : (if i < 0 then -i else i) = ((i.natAbs : Nat) : Int) := by split <;> omega
  simp only [biO, bi1, onI, asI, Option.bind_some, this]
theorem xb_max2 (i j : Int) : biO .max2 [.int i, .int j] = some (.int (if j > i then j else i), .z) := rfl
theorem xb_min2 (i j : Int) : biO .min2 [.int i, .int j] = some (.int (if j < i then j else i), .z) := rfl
theorem xb_list (xs : List D) : biO .list [.list xs] = some (.list xs, .f) := rfl
theorem xb_listT (xs : List D) : biO .list [.tuple xs] = some (.list xs, .f) := rfl
theorem xb_intb (b : Bool) : biO .int [.bool b] = some (.int (if b then 1 else 0), .z) := rfl
theorem xb_inti (b : Int) : biO .int [.int b] = some (.int b, .z) := rfl
theorem xb_rev (xs : List D) : biO .listRev [.list xs] = some (.list xs.reverse, .f) := rfl
theorem xb_min (xs : List D) : biO .minl [.list xs] = (minO xs).map (·, .z) := rfl
theorem xb_max (xs : List D) : biO .maxl [.list xs] = (maxO xs).map (·, .z) := rfl
theorem intsO_map : ∀ ns : List Int, intsO (ns.map .int) = some ns
  | [] => rfl
  | n :: ns => by simp [intsO, intsO_map ns]
theorem xb_sum (ns : List Int) : biO .sum [.list (ns.map .int)] = some (.int ns.sum, .z) := by simp [biO, bi1, onIs, asL, intsO_map]
theorem scal_tp (p : P) : scal (tp p) = false := rfl
theorem pow_ok {i j : Int} (h : powOk i j = true) : op2 .pow (.int i) (.int j) = some (.int (i ^ j.toNat), .z) := by simp [op2, asI, opI, h]
theorem bd_lit (n : Int) : bd (n.natAbs.log2 + 1) n := by
  refine bd_of ?_
  by_cases z : n.natAbs = 0
  · rw [z]; decide
  · exact (Nat.log2_lt z).mp (Nat.lt_succ_self _)
theorem ty_ii (i : Int) : isTy .int (.int i) = some true := rfl
theorem ty_bi (i : Int) : isTy .bool (.int i) = some false := rfl
theorem ty_ll (i : List D) : isTy .list (.list i) = some true := rfl
theorem ty_tt (i : List D) : isTy .tuple (.tuple i) = some true := rfl
theorem ty_bb (i : Bool) : isTy .bool (.bool i) = some true := rfl
theorem ty_ib (i : Bool) : isTy .int (.bool i) = some true := rfl
theorem fl_t (xs : List D) : flat (.tuple xs) = flatAll xs := rfl
theorem fl_l (xs : List D) : flat (.list xs) = false := rfl
theorem fl_d (xs : List (D × D)) : flat (.dict xs) = false := rfl
theorem fl_i (i : Int) : flat (.int i) = true := rfl
theorem fl_b (i : Bool) : flat (.bool i) = true := rfl
theorem fl_n : flat .none = true := rfl
theorem fl_tp (p : P) : flat (tp p) = true := rfl
theorem fa_nil : flatAll [] = true := rfl
theorem fa_cons (a : D) (r : List D) : flatAll (a :: r) = (flat a && flatAll r) := rfl
theorem fa_map {α : Type} {f : α → D} (h : ∀ a, flat (f a) = true) : ∀ l : List α, flatAll (l.map f) = true
  | [] => rfl
  | a :: l => by rw [List.map_cons, fa_cons, h a, fa_map h l]; rfl
theorem fa_tp (l : List P) : flatAll (l.map tp) = true := fa_map fl_tp l
theorem fa_int (l : List Int) : flatAll (l.map .int) = true := fa_map fl_i l
theorem ks_l (xs : List D) : keepS (.list xs, .f) = flatAll xs := rfl
theorem ks_lz (xs : List D) : keepS (.list xs, .z) = false := rfl
theorem ks_t (xs : List D) (o : Os) : keepS (.tuple xs, o) = flatAll xs := by cases o <;> rfl
theorem ks_i (i : Int) (o : Os) : keepS (.int i, o) = true := by cases o <;> rfl
theorem ks_b (i : Bool) (o : Os) : keepS (.bool i, o) = true := by cases o <;> rfl
theorem ks_n (o : Os) : keepS (.none, o) = true := by cases o <;> rfl
theorem ks_d (xs : List (D × D)) (o : Os) : keepS (.dict xs, o) = false := by cases o <;> rfl
theorem ks_tp (p : P) (o : Os) : keepS (tp p, o) = true := by cases o <;> rfl
theorem sc_l (xs : List D) : scal (.list xs) = false := rfl
theorem sc_t (xs : List D) : scal (.tuple xs) = false := rfl
theorem sc_i (i : Int) : scal (.int i) = true := rfl
theorem sc_b (i : Bool) : scal (.bool i) = true := rfl
theorem sc_n : scal .none = true := rfl
theorem rng_ok {i : Int} (h : i.natAbs < 2 ^ 61) : rngOk i = true := by
  unfold rngOk
  rw [Bool.and_eq_true, decide_eq_true_eq, decide_eq_true_eq]
  have e : (2 : Int) ^ 62 = 4611686018427387904 := by decide +kernel
  have e2 : (2 : Nat) ^ 61 = 2305843009213693952 := by decide +kernel
  rw [e]
  rw [e2] at h
  omega
theorem it_seq (xs : List D) : iterO .seq [.list xs] = some xs := rfl
theorem it_seqT (xs : List D) : iterO .seq [.tuple xs] = some xs := rfl
theorem it_seqS (xs : List D) : iterO .seq [scr xs] = some xs := rfl
theorem it_rng {i : Int} (h : rngOk i = true) : iterO .range [.int i] = some (rangeD 0 i.toNat) := by
  show (if rngOk i = true then _ else _) = _
  rw [if_pos h]
theorem it_rng2 {i j : Int} (h : rngOk i = true) (k : rngOk j = true) : iterO .range [.int i, .int j] = some (rangeD i (j - i).toNat) := by
  show (if (rngOk i && rngOk j) = true then _ else _) = _
  rw [h, k]; rfl
theorem it_rngN (n : Nat) (h : n ≤ 1000000000) : iterO .range [.int (n : Nat)] = some (rangeD 0 n) := by
  have := it_rng (i := (n : Nat)) (rng_ok (by have e2 : (2 : Nat) ^ 61 = 2305843009213693952 := by decide +kernel
                                              rw [e2]; omega))
  rw [this, Int.toNat_natCast]
theorem it_rngC (i j c : Nat) (hc : 0 < c) (h : c ≤ 1000) (hi : i ≤ 1000000000) (hj : j ≤ 1000000000) : iterO .range [.int (i : Nat), .int (j : Nat), .int (c : Nat)] = some (rangeC i c (PySem.Builtin.Range.rangeSize i j c).toNat) := by
  have p : (2 : Int) ^ 63 = 9223372036854775808 := by decide +kernel
  have c0 : ((c : Nat) : Int) > 0 := by omega
  have sz : 0 ≤ PySem.Builtin.Range.rangeSize (i : Nat) (j : Nat) (c : Nat) ∧ PySem.Builtin.Range.rangeSize (i : Nat) (j : Nat) (c : Nat) ≤ 1000000001 := by
    unfold PySem.Builtin.Range.rangeSize
    rw [if_pos c0]
    split
    · have h1 : (0 : Int) ≤ ((j : Int) - i - 1) / c := Int.ediv_nonneg (by omega) (by omega)
      have h2 : ((j : Int) - i - 1) / c ≤ (j : Int) - i - 1 := Int.ediv_le_self _ (by omega)
      omega
    · omega
  have fits : ∀ x : Int, -10000000000 ≤ x → x ≤ 10000000000 → PySem.Builtin.Range.rangeFitsLong x = true := fun x h1 h2 => by
    unfold PySem.Builtin.Range.rangeFitsLong
    rw [p, Bool.and_eq_true, decide_eq_true_eq, decide_eq_true_eq]
    omega
  have ok : rngC (i : Nat) (j : Nat) (c : Nat) = true := by
    unfold rngC PySem.Builtin.Range.small
    rw [fits _ (by omega) (by omega), fits _ (by omega) (by omega), fits _ (by omega) (by omega), fits _ (by omega) (by omega), if_pos c0, fits _ (by omega) (by omega), decide_eq_true (by omega), decide_eq_true (by omega), decide_eq_true sz.1]
    simp
  show (if rngC (i : Nat) (j : Nat) (c : Nat) = true then _ else _) = _
  rw [if_pos ok]
theorem it_enum (xs : List D) : iterO .enum [.list xs] = some (xs.mapIdx fun i x => .tuple [.int (i : Nat), x]) := rfl
theorem it_zip (xs ys : List D) : iterO .zip [.list xs, .list ys] = some ((xs.zip ys).map fun p => .tuple [p.1, p.2]) := rfl
theorem it_rev (xs : List D) : iterO .rev [.list xs] = some xs.reverse := rfl
theorem powOk_lit {i j : Int} (h : powOk i j = true) : powOk i j = true := h
theorem ne_lit {i j : Int} (h : i ≠ j) : i ≠ j := h
theorem sl_dl (xs : List D) : slO (.list xs) none (some (-1)) = some (.list xs.dropLast, .f) := by
  simp only [slO, cutD, HT.sIx, List.dropLast_eq_take]
  have e : ((-1 : Int) + (xs.length : Int)).toNat = xs.length - 1 := by omega
  simp [e]
theorem cut_ab (xs : List D) (a b : Nat) : cutD xs (some (a : Int)) (some (b : Int)) = (xs.drop a).take (b - a) := by
  unfold cutD
  rw [HT.sIx_nat, HT.sIx_nat]
  rcases Nat.le_total a xs.length with h | h
  · rw [Nat.min_eq_left h]
    rcases Nat.le_total b xs.length with k | k
    · rw [Nat.min_eq_left k]
    · rw [Nat.min_eq_right k, List.take_of_length_le (by simp), List.take_of_length_le (by simp; omega)]
  · rw [Nat.min_eq_right h, List.drop_of_length_le (Nat.le_refl _), List.drop_of_length_le h]; simp
theorem sl_ab (xs : List D) (a b : Nat) : slO (.list xs) (some (a : Int)) (some (b : Int)) = some (.list ((xs.drop a).take (b - a)), .f) := by
  simp only [slO, cut_ab]
theorem sl_ab_s (xs : List D) (a b : Nat) : slO (scr xs) (some (a : Int)) (some (b : Int)) = some (.list ((xs.drop a).take (b - a)), .f) := by
  simp only [slO, scr, asR, cut_ab, Option.map_some]
/-! dicts -/
theorem intsO_l : ∀ ns : List Int, intsO (ns.map .int) = some ns
  | [] => rfl
  | n :: ns => by simp [intsO, intsO_l ns]
theorem asKs_dk : ∀ l : List (List Int × D), asKs (dkL l) = some l
  | [] => rfl
  | p :: l => by
    have e : dkL (p :: l) = (tupI p.1, p.2) :: dkL l := rfl
    rw [e]
    simp only [asKs, keyO, tupI, intsO_l, Option.bind_some, asKs_dk l, Option.map_some]
theorem asR_dk (l : List (List Int × D)) : asR (.dict (dkL l)) = none := by
  cases l with
  | nil => rfl
  | cons p l =>
    have e : dkL (p :: l) = (tupI p.1, p.2) :: dkL l := rfl
    rw [e]
    unfold asR tupI
    split
    · rename_i h
      injection h with h
      injection h with h1 h2
      injection h1 with h1 _
      cases h1
    · rfl
theorem asDI_dkL (l : List (List Int × D)) : asDI (dkL l) = none := asDI_none (asKs_dk l)
theorem key2 (i j : Int) : keyO (.tuple [.int i, .int j]) = some [i, j] := rfl
theorem dk_in (l : List (List Int × D)) (i j : Int) : cm .inn (.tuple [.int i, .int j]) (.dict (dkL l)) = some (dhas l [i, j]) := by
  simp only [cm, inO, asDI_dkL, asKs_dk, Option.bind_some, key2, Option.map_some]
theorem dk_get (l : List (List Int × D)) (i j : Int) : idxO (.dict (dkL l)) (.tuple [.int i, .int j]) = dfind l [i, j] := by
  simp only [idxO, asR_dk, asDI_dkL, asKs_dk, Option.bind_some, key2]
theorem dk_len (l : List (List Int × D)) : biO .len [.dict (dkL l)] = some (.int (l.length : Nat), .z) := by
  simp only [biO, bi1, lenO, asR_dk, asDI_dkL, asKs_dk, Option.map_some]
theorem dk_nil (l : List (List Int × D)) : cm .eq (.dict (dkL l)) (.dict []) = some l.isEmpty := by
  have e : eqOk (.dict (dkL l)) (.dict []) = false := by
    unfold eqOk PySem.SeqAt.shaped
    simp [PySem.PyData.canLay0]
  simp only [cm, e, eqD, asK, asKs_dk, Option.map_some]
  rfl
theorem dk_put {ρ : Rho} {n : Nat} {l : List (List Int × D)} {i j : Int} {d : D} (h : ρ[n]? = some (some (.dict (dkL l), true))) (hl : l.length < lim) : putO ρ n (.tuple [.int i, .int j]) d = some (.next (ρ.set n (some (.dict (dkL (dput l [i, j] d)), true)))) := by
  unfold putO
  rw [h]
  simp only [asDI_dkL, asKs_dk, Option.bind_some, key2, if_pos hl]
theorem dk_sort {l : List (List Int × D)} (h : setOk (l.map (·.1)) = true) : biO .sorted [.dict (dkL l)] = some (.list (((l.map (·.1)).mergeSort fun a b => decide (a ≤ b)).map tupI), .f) := by
  simp only [biO, bi1, sorO, asKs_dk, Option.bind_some, if_pos h]
/-! dicts keyed by whole numbers -/
theorem asR_dI : ∀ l : List (Int × D), asR (.dict (dkI l)) = none
  | [] => rfl
  | _ :: _ => rfl
theorem di_in (l : List (Int × D)) (i : Int) : cm .inn (.int i) (.dict (dkI l)) = some (ihas l i) := by
  simp only [cm, inO, asDI_dk, asI, Option.map_some]
theorem di_nin (l : List (Int × D)) (i : Int) : cm .nin (.int i) (.dict (dkI l)) = some (!ihas l i) := by
  simp only [cm, inO, asDI_dk, asI, Option.map_some]
theorem di_get (l : List (Int × D)) (i : Int) : idxO (.dict (dkI l)) (.int i) = ifind l i := by
  simp only [idxO, asR_dI, asDI_dk, asI, Option.bind_some]
theorem di_len (l : List (Int × D)) : biO .len [.dict (dkI l)] = some (.int (l.length : Nat), .z) := by
  simp only [biO, bi1, lenO, asR_dI, asDI_dk, Option.map_some]
theorem di_list (l : List (Int × D)) : biO .list [.dict (dkI l)] = some (.list ((l.map (·.1)).map .int), .f) := by
  simp only [biO, bi1, listO, asDI_dk, Option.map_some, List.map_map]
  rfl
theorem di_put {ρ : Rho} {n : Nat} {l : List (Int × D)} {i : Int} {d : D} (h : ρ[n]? = some (some (.dict (dkI l), true))) (hl : l.length < lim) : putO ρ n (.int i) d = some (.next (ρ.set n (some (.dict (dkI (iput l i d)), true)))) := by
  unfold putO
  rw [h]
  simp only [asDI_dk, asI, Option.bind_some, if_pos hl]
theorem dput_mem {l : List (List Int × D)} {k : List Int} {v : D} {p : List Int × D} (h : p ∈ dput l k v) : p ∈ l ∨ p = (k, v) := by
  unfold dput at h
  split at h
  · obtain ⟨q, hq, e⟩ := List.mem_map.mp h
    split at e
    · rename_i hk
      right; rw [← e, hk]
    · left; rw [← e]; exact hq
  · rcases List.mem_append.mp h with h | h
    · exact .inl h
    · exact .inr (List.mem_singleton.mp h)
theorem dput_len (l : List (List Int × D)) (k : List Int) (v : D) : (dput l k v).length ≤ l.length + 1 := by
  unfold dput
  split
  · rw [List.length_map]; omega
  · rw [List.length_append]; simp
theorem dput_ne (l : List (List Int × D)) (k : List Int) (v : D) : dput l k v ≠ [] := by
  unfold dput
  split
  · rename_i h
    intro e
    have : l = [] := List.map_eq_nil_iff.mp e
    rw [this] at h
    cases h
  · simp
theorem dfind_some {l : List (List Int × D)} {k : List Int} (h : k ∈ l.map (·.1)) : ∃ v, dfind l k = some v ∧ (k, v) ∈ l := by
  unfold dfind
  cases e : l.find? (fun p => decide (p.1 = k)) with
  | none =>
    obtain ⟨p, hp, e2⟩ := List.mem_map.mp h
    have := List.find?_eq_none.mp e p hp
    simp [e2] at this
  | some p =>
    have h1 := List.mem_of_find?_eq_some e
    have h2 := List.find?_some e
    simp at h2
    exact ⟨p.2, rfl, by rw [← h2]; exact h1⟩
theorem dhas_mem {l : List (List Int × D)} {k : List Int} (h : dhas l k = true) : k ∈ l.map (·.1) := by
  unfold dhas at h
  obtain ⟨p, hp, e⟩ := List.any_eq_true.mp h
  simp at e
  exact List.mem_map.mpr ⟨p, hp, e⟩
/-! loops -/
theorem thn_for {Φ : Ph} {t : Tg} {body r : C} {ρ : Rho} {xs : List D} {o : Option Out} (I : Nat → Rho → Prop) (h : I 0 ρ)
    (st : ∀ i d ρ, xs[i]? = some d → I i ρ → ∃ ρ1 ρ2, bindT t d ρ = some ρ1 ∧ exec Φ body ρ1 = some (.next ρ2) ∧ I (i + 1) ρ2) (fin : ∀ ρ', I xs.length ρ' → exec Φ r ρ' = o) : thn Φ r (forX Φ t body ρ (some xs)) = o := by
  obtain ⟨ρ', e, i⟩ := forGo_inv (t := bindT t) (b := fun ρ => exec Φ body ρ) I (k := 0) h fun i d ρ hd hi => by
    have := st i d ρ hd (by rw [Nat.zero_add] at hi; exact hi)
    rw [Nat.zero_add]; exact this
  show thn Φ r (forGo (bindT t) (fun ρ => exec Φ body ρ) xs ρ) = o
  rw [e]
  exact fin ρ' (by rw [Nat.zero_add] at i; exact i)
theorem fn_for {β : Type} {k : Out → Option β} {Φ : Ph} {t : Tg} {body r : C} {ρ : Rho} {xs : List D} {o : Option β} (I : Nat → Rho → Prop) (h : I 0 ρ)
    (st : ∀ i d ρ, xs[i]? = some d → I i ρ → ∃ ρ1 ρ2, bindT t d ρ = some ρ1 ∧ exec Φ body ρ1 = some (.next ρ2) ∧ I (i + 1) ρ2) (fin : ∀ ρ', I xs.length ρ' → (exec Φ r ρ').bind k = o) : (thn Φ r (forX Φ t body ρ (some xs))).bind k = o := by
  obtain ⟨ρ', e, i⟩ := forGo_inv (t := bindT t) (b := fun ρ => exec Φ body ρ) I (k := 0) h fun i d ρ hd hi => by
    have := st i d ρ hd (by rw [Nat.zero_add] at hi; exact hi)
    rw [Nat.zero_add]; exact this
  show (thn Φ r (forGo (bindT t) (fun ρ => exec Φ body ρ) xs ρ)).bind k = o
  rw [e]
  exact fin ρ' (by rw [Nat.zero_add] at i; exact i)
/-- it comes to something like R -/
def Ex {β : Type} (x : Option β) (R : β → Prop) : Prop := ∃ o, x = some o ∧ R o
theorem Ex.mk {β : Type} {o : β} {R : β → Prop} (h : R o) : Ex (some o) R := ⟨o, rfl, h⟩
theorem fn_forE {β : Type} {R : β → Prop} {k : Out → Option β} {Φ : Ph} {t : Tg} {body r : C} {ρ : Rho} {xs : List D} (I : Nat → Rho → Prop) (h : I 0 ρ)
    (st : ∀ i d ρ, xs[i]? = some d → I i ρ → ∃ ρ1 ρ2, bindT t d ρ = some ρ1 ∧ exec Φ body ρ1 = some (.next ρ2) ∧ I (i + 1) ρ2) (fin : ∀ ρ', I xs.length ρ' → Ex ((exec Φ r ρ').bind k) R) : Ex ((thn Φ r (forX Φ t body ρ (some xs))).bind k) R := by
  obtain ⟨ρ', e, i⟩ := forGo_inv (t := bindT t) (b := fun ρ => exec Φ body ρ) I (k := 0) h fun i d ρ hd hi => by
    have := st i d ρ hd (by rw [Nat.zero_add] at hi; exact hi)
    rw [Nat.zero_add]; exact this
  show ∃ o, (thn Φ r (forGo (bindT t) (fun ρ => exec Φ body ρ) xs ρ)).bind k = some o ∧ R o
  rw [e]
  exact fin ρ' (by rw [Nat.zero_add] at i; exact i)
/-- it goes on, with I -/
def Nx (x : Option Out) (I : Rho → Prop) : Prop := ∃ ρ, x = some (.next ρ) ∧ I ρ
theorem Nx.mk {ρ : Rho} {I : Rho → Prop} (h : I ρ) : Nx (some (.next ρ)) I := ⟨ρ, rfl, h⟩
theorem Nx.mono {x : Option Out} {I J : Rho → Prop} (h : Nx x I) (k : ∀ ρ, I ρ → J ρ) : Nx x J := by obtain ⟨ρ, e, i⟩ := h; exact ⟨ρ, e, k ρ i⟩
theorem for_nx {Φ : Ph} {t : Tg} {body : C} {ρ : Rho} {xs : List D} (I : Nat → Rho → Prop) (h : I 0 ρ)
    (st : ∀ i d ρ, xs[i]? = some d → I i ρ → ∃ ρ1, bindT t d ρ = some ρ1 ∧ Nx (exec Φ body ρ1) (I (i + 1))) : Nx (forX Φ t body ρ (some xs)) (I xs.length) := by
  obtain ⟨ρ', e, i⟩ := forGo_inv (t := bindT t) (b := fun ρ => exec Φ body ρ) I (k := 0) h fun i d ρ hd hi => by
    obtain ⟨ρ1, e1, ρ2, e2, i2⟩ := st i d ρ hd (by rw [Nat.zero_add] at hi; exact hi)
    exact ⟨ρ1, ρ2, e1, e2, by rw [Nat.zero_add]; exact i2⟩
  exact ⟨ρ', e, by rw [Nat.zero_add] at i; exact i⟩
theorem nx_for {Φ : Ph} {t : Tg} {body r : C} {ρ : Rho} {xs : List D} {J : Rho → Prop} (I : Nat → Rho → Prop) (h : I 0 ρ)
    (st : ∀ i d ρ, xs[i]? = some d → I i ρ → ∃ ρ1, bindT t d ρ = some ρ1 ∧ Nx (exec Φ body ρ1) (I (i + 1))) (fin : ∀ ρ', I xs.length ρ' → Nx (exec Φ r ρ') J) : Nx (thn Φ r (forX Φ t body ρ (some xs))) J := by
  obtain ⟨ρ', e, i⟩ := for_nx I h st
  rw [e]
  exact fin ρ' i
theorem fe_for {β : Type} {k : Out → Option β} {Φ : Ph} {t : Tg} {body r : C} {ρ : Rho} {xs : List D} {o : Option β} (I : Nat → Rho → Prop) (h : I 0 ρ)
    (st : ∀ i d ρ, xs[i]? = some d → I i ρ → ∃ ρ1, bindT t d ρ = some ρ1 ∧ Nx (exec Φ body ρ1) (I (i + 1))) (fin : ∀ ρ', I xs.length ρ' → (exec Φ r ρ').bind k = o) : (thn Φ r (forX Φ t body ρ (some xs))).bind k = o := by
  obtain ⟨ρ', e, i⟩ := for_nx I h st
  rw [e]
  exact fin ρ' i
theorem fx_for {β : Type} {R : β → Prop} {k : Out → Option β} {Φ : Ph} {t : Tg} {body r : C} {ρ : Rho} {xs : List D} (I : Nat → Rho → Prop) (h : I 0 ρ)
    (st : ∀ i d ρ, xs[i]? = some d → I i ρ → ∃ ρ1, bindT t d ρ = some ρ1 ∧ Nx (exec Φ body ρ1) (I (i + 1))) (fin : ∀ ρ', I xs.length ρ' → Ex ((exec Φ r ρ').bind k) R) : Ex ((thn Φ r (forX Φ t body ρ (some xs))).bind k) R := by
  obtain ⟨ρ', e, i⟩ := for_nx I h st
  rw [e]
  exact fin ρ' i
theorem for_some {Φ : Ph} {t : Tg} {body : C} {ρ : Rho} {xs : List D} (I : Nat → Rho → Prop) (h : I 0 ρ)
    (st : ∀ i d ρ, xs[i]? = some d → I i ρ → ∃ ρ1 ρ2, bindT t d ρ = some ρ1 ∧ exec Φ body ρ1 = some (.next ρ2) ∧ I (i + 1) ρ2) : ∃ ρ', forX Φ t body ρ (some xs) = some (.next ρ') ∧ I xs.length ρ' := by
  obtain ⟨ρ', e, i⟩ := forGo_inv (t := bindT t) (b := fun ρ => exec Φ body ρ) I (k := 0) h fun i d ρ hd hi => by
    have := st i d ρ hd (by rw [Nat.zero_add] at hi; exact hi)
    rw [Nat.zero_add]; exact this
  exact ⟨ρ', e, by rw [Nat.zero_add] at i; exact i⟩
theorem wx_turn {Φ : Ph} {c b : C} {ρ ρ' : Rho} {r : Out} (hc : boX (ev Φ c ρ) = some true) (hb : exec Φ b ρ = some (.next ρ')) (h : whX Φ c b ρ' = some r) : whX Φ c b ρ = some r := wh_turn hc hb h
theorem wx_end {Φ : Ph} {c b : C} {ρ : Rho} (hc : boX (ev Φ c ρ) = some false) : whX Φ c b ρ = some (.next ρ) := wh_end hc
theorem lc_map {Φ : Ph} {t : Tg} {cond elt : C} {ρ : Rho} : ∀ {xs ys : List D}, xs.length = ys.length → (∀ (i : Nat) (d y : D), xs[i]? = some d → ys[i]? = some y → ∃ ρ1 r, bindT t d ρ = some ρ1 ∧ boX (ev Φ cond ρ1) = some true ∧ ev Φ elt ρ1 = some r ∧ take r = some y) → lcGoX Φ t cond elt ρ xs = some ys
  | [], [], _, _ => rfl
  | d :: xs, y :: ys, hl, h => by
    obtain ⟨ρ1, r, e1, e2, e3, e4⟩ := h 0 d y rfl rfl
    have ih := lc_map (Φ := Φ) (t := t) (cond := cond) (elt := elt) (ρ := ρ) (xs := xs) (ys := ys) (by simpa using hl) fun i d y h1 h2 => h (i + 1) d y (by simpa using h1) (by simpa using h2)
    unfold lcGoX at ih ⊢
    rw [← bo_eq] at e2
    simp only [lcGo, e1, e2, e3, e4, ih, Option.bind_eq_bind, Option.bind_some, if_true]
theorem map_at {α : Type} {f : α → D} {ps : List α} {i : Nat} {d : D} (h : (ps.map f)[i]? = some d) : ∃ p, ps[i]? = some p ∧ d = f p := by
  rw [List.getElem?_map] at h
  cases e : ps[i]? with
  | none => rw [e] at h; cases h
  | some p => rw [e] at h; exact ⟨p, rfl, (Option.some.inj h).symm⟩
theorem range_at {a : Int} {n i : Nat} {d : D} (h : (rangeD a n)[i]? = some d) : d = .int (a + (i : Nat)) ∧ i < n := by
  unfold rangeD at h
  obtain ⟨k, e, rfl⟩ := map_at h
  have hi := (List.getElem?_eq_some_iff.mp h).1
  simp at hi
  rw [List.getElem?_range hi] at e
  cases e
  exact ⟨rfl, hi⟩
end Pv

set_option Elab.async false
set_option linter.all false
set_option maxRecDepth 100000
/-! Li: whole-number codes, their sizes reckoned. -/
namespace Pv
def slotI (ρ : Rho) (i : Nat) : Int := match ρ[i]? with
  | some (some (.int v, _)) => v
  | _ => 0
def ival (ρ : Rho) : C → Int
  | .cst (.int i) => i
  | .brw i => slotI ρ i
  | .var i => slotI ρ i
  | .neg a => - ival ρ a
  | .bin .add a b => ival ρ a + ival ρ b
  | .bin .sub a b => ival ρ a - ival ρ b
  | .bin .mul a b => ival ρ a * ival ρ b
  | .bin .fdiv a b => (ival ρ a).fdiv (ival ρ b)
  | .bin .mod a b => (ival ρ a).fmod (ival ρ b)
  | .bin .pow a b => (ival ρ a) ^ (ival ρ b).toNat
  | _ => 0
/-- bits, and the number where it is known -/
abbrev Sz := Nat × Option Int
def both (f : Int → Int → Int) : Option Int → Option Int → Option Int
  | some x, some y => some (f x y)
  | _, _ => none
def szOf (n : Nat) (c : Option Int) : Sz := match c with
  | some x => (x.natAbs.log2 + 1, some x)
  | none => (n, none)
/-- f: free size (no bound is known): none -/
abbrev Sg := List (Option (Option Nat))
def isz (σ : Sg) : C → Option (Option Nat × Option Int)
  | .cst (.int i) => some (some (i.natAbs.log2 + 1), some i)
  | .brw i => (σ[i]?.join).map fun n => (n, none)
  | .var i => (σ[i]?.join).map fun n => (n, none)
  | .neg a => (isz σ a).map fun x => (x.1, x.2.map fun i => -i)
  | .bin .add a b => (isz σ a).bind fun x => (isz σ b).map fun y => (x.1.bind fun n => y.1.map fun m => max n m + 1, both (· + ·) x.2 y.2)
  | .bin .sub a b => (isz σ a).bind fun x => (isz σ b).map fun y => (x.1.bind fun n => y.1.map fun m => max n m + 1, both (· - ·) x.2 y.2)
  | .bin .mul a b => (isz σ a).bind fun x => (isz σ b).bind fun y => match x.1, y.1 with
    | some n, some m => if n + m ≤ 999999 then some (some (n + m), both (· * ·) x.2 y.2) else none
    | none, some m => if m ≤ 64 then some (none, both (· * ·) x.2 y.2) else none
    | some n, none => if n ≤ 64 then some (none, both (· * ·) x.2 y.2) else none
    | _, _ => none
  | .bin .fdiv a b => (isz σ a).bind fun x => (isz σ b).bind fun y => match y.2 with
    | some j => if divOk j = true ∧ 0 < j then some (x.1, none) else none
    | _ => none
  | .bin .mod a b => (isz σ a).bind fun _ => (isz σ b).bind fun y => match y.2 with
    | some j => if 0 < j then some (some (j.natAbs.log2 + 1), none) else none
    | _ => none
  | .bin .pow a b => (isz σ a).bind fun x => (isz σ b).bind fun y => match x.2, y.2 with
    | some i, some j => if powOk i j = true then some (some ((i ^ j.toNat).natAbs.log2 + 1), some (i ^ j.toNat)) else none
    | _, _ => none
  | _ => none
/-- the slots are whole numbers of these sizes -/
def SzI (σ : Sg) (ρ : Rho) : Prop := ∀ (i : Nat) (n : Option Nat), σ[i]? = some (some n) → ∃ (v : Int) (o : Bool), ρ[i]? = some (some (PySem.PyData.int v, o)) ∧ ∀ m, n = some m → bd m v
theorem SzI.nil {ρ : Rho} : SzI [] ρ := fun i n h => by simp at h
theorem SzI.free {σ : Sg} {ρ : Rho} {v : Int} {o : Bool} (h : SzI σ ρ) : SzI (some none :: σ) (some (.int v, o) :: ρ) := fun i n e => by
  cases i with
  | zero => cases e; exact ⟨v, o, rfl, fun m e => by cases e⟩
  | succ i => exact h i n (by simpa using e)
theorem SzI.size {σ : Sg} {ρ : Rho} {n : Nat} {v : Int} {o : Bool} (b : bd n v) (h : SzI σ ρ) : SzI (some (some n) :: σ) (some (.int v, o) :: ρ) := fun i n e => by
  cases i with
  | zero => cases e; exact ⟨v, o, rfl, fun m e => by cases e; exact b⟩
  | succ i => exact h i n (by simpa using e)
theorem SzI.skip {σ : Sg} {ρ : Rho} {s : Slot} (h : SzI σ ρ) : SzI (none :: σ) (s :: ρ) := fun i n e => by
  cases i with
  | zero => cases e
  | succ i => exact h i n (by simpa using e)
def ios : C → Os
  | .brw _ => .b
  | _ => .z
structure Iok (Φ : Ph) (ρ : Rho) (e : C) (n : Option Nat) (c : Option Int) : Prop where
  ev : Pv.ev Φ e ρ = some (.int (ival ρ e), ios e)
  bd : ∀ m, n = some m → bd m (ival ρ e)
  cs : ∀ k, c = some k → ival ρ e = k
theorem isz_ok {Φ : Ph} {σ : Sg} {ρ : Rho} (h : SzI σ ρ) : ∀ {e : C} {n : Option Nat} {c : Option Int}, isz σ e = some (n, c) → Iok Φ ρ e n c := by
  intro e
  induction e with
  | cst d =>
    intro n c hh
    cases d with
    | int i =>
      simp only [isz, Option.some.injEq, Prod.mk.injEq] at hh
      obtain ⟨rfl, rfl⟩ := hh
      exact ⟨ev_cst Φ, fun m e => by cases e; exact bd_lit i, fun k e => by cases e; rfl⟩
    | _ => cases hh
  | brw i =>
    intro n c hh
    simp only [isz] at hh
    cases e1 : σ[i]? with
    | none => rw [e1] at hh; cases hh
    | some o =>
      cases o with
      | none => rw [e1] at hh; cases hh
      | some n' =>
        rw [e1] at hh
        cases hh
        obtain ⟨v, o, e2, b⟩ := h i _ e1
        have iv : ival ρ (.brw i) = v := by simp only [ival, slotI, e2]
        exact ⟨by rw [ev_brw, e2, iv]; rfl, fun m e => by rw [iv]; exact b m e, fun k e => by cases e⟩
  | var i =>
    intro n c hh
    simp only [isz] at hh
    cases e1 : σ[i]? with
    | none => rw [e1] at hh; cases hh
    | some o =>
      cases o with
      | none => rw [e1] at hh; cases hh
      | some n' =>
        rw [e1] at hh
        cases hh
        obtain ⟨v, o, e2, b⟩ := h i _ e1
        have iv : ival ρ (.var i) = v := by simp only [ival, slotI, e2]
        refine ⟨?_, fun m e => by rw [iv]; exact b m e, fun k e => by cases e⟩
        rw [ev_var, e2, iv]
        cases o <;> rfl
  | neg a iha =>
    intro n c hh
    simp only [isz] at hh
    cases e1 : isz σ a with
    | none => rw [e1] at hh; cases hh
    | some x =>
      obtain ⟨x1, x2⟩ := x
      rw [e1] at hh
      cases hh
      have A := iha e1
      refine ⟨by rw [ev_neg, A.ev]; rfl, fun m e => bd_neg (A.bd m e), fun k e => ?_⟩
      cases x2 with
      | none => cases e
      | some y => cases e; show - ival ρ a = _; rw [A.cs _ rfl]
  | bin o a b iha ihb =>
    intro n c hh
    cases e1 : isz σ a with
    | none => cases o <;> simp only [isz, e1, Option.bind_none] at hh <;> cases hh
    | some x =>
      cases e2 : isz σ b with
      | none => cases o <;> simp only [isz, e1, e2, Option.bind_some, Option.bind_none, Option.map_none] at hh <;> cases hh
      | some y =>
        obtain ⟨x1, x2⟩ := x
        obtain ⟨y1, y2⟩ := y
        have A := iha e1
        have B := ihb e2
        have E : ∀ v : Int, op2 o (.int (ival ρ a)) (.int (ival ρ b)) = some (.int v, .z) → Pv.ev Φ (.bin o a b) ρ = some (.int v, .z) := fun v hv => by
          rw [ev_bin, A.ev, B.ev]; exact hv
        cases o with
        | add =>
          simp only [isz, e1, e2, Option.bind_some, Option.map_some, Option.some.injEq, Prod.mk.injEq] at hh
          obtain ⟨rfl, rfl⟩ := hh
          refine ⟨E _ (op_add _ _), fun m e => ?_, fun k e => ?_⟩
          · cases x1 <;> cases y1 <;> cases e
            exact bd_add (A.bd _ rfl) (B.bd _ rfl)
          · cases x2 <;> cases y2 <;> cases e
            show ival ρ a + ival ρ b = _
            rw [A.cs _ rfl, B.cs _ rfl]
        | sub =>
          simp only [isz, e1, e2, Option.bind_some, Option.map_some, Option.some.injEq, Prod.mk.injEq] at hh
          obtain ⟨rfl, rfl⟩ := hh
          refine ⟨E _ (op_sub _ _), fun m e => ?_, fun k e => ?_⟩
          · cases x1 <;> cases y1 <;> cases e
            exact bd_sub (A.bd _ rfl) (B.bd _ rfl)
          · cases x2 <;> cases y2 <;> cases e
            show ival ρ a - ival ρ b = _
            rw [A.cs _ rfl, B.cs _ rfl]
        | mul =>
          simp only [isz, e1, e2, Option.bind_some] at hh
          have cs : ∀ k, both (· * ·) x2 y2 = some k → ival ρ a * ival ρ b = k := fun k e => by
            cases x2 <;> cases y2 <;> cases e
            rw [A.cs _ rfl, B.cs _ rfl]
          cases x1 with
          | none =>
            cases y1 with
            | none => cases hh
            | some q =>
              simp only at hh
              split at hh
              · rename_i hk
                cases hh
                exact ⟨E _ (op_mul (mulOk_r (B.bd _ rfl) hk)), fun m e => (by cases e), cs⟩
              · cases hh
          | some p =>
            cases y1 with
            | none =>
              simp only at hh
              split at hh
              · rename_i hk
                cases hh
                exact ⟨E _ (op_mul (mulOk_l (A.bd _ rfl) hk)), fun m e => (by cases e), cs⟩
              · cases hh
            | some q =>
              simp only at hh
              split at hh
              · rename_i hk
                cases hh
                refine ⟨E _ (op_mul (mulOk_bd (A.bd _ rfl) (B.bd _ rfl) hk)), fun m e => ?_, cs⟩
                cases e
                exact bd_mul (A.bd _ rfl) (B.bd _ rfl)
              · cases hh
        | fdiv =>
          simp only [isz, e1, e2, Option.bind_some] at hh
          cases y2 with
          | none => cases hh
          | some j =>
            simp only at hh
            split at hh
            · rename_i hk
              cases hh
              have hj := B.cs _ rfl
              refine ⟨E _ (op_fdiv (by rw [hj]; exact hk.1)), fun m e => ?_, fun k e => by cases e⟩
              show Pv.bd m ((ival ρ a).fdiv (ival ρ b))
              rw [hj]
              exact bd_fdiv (A.bd _ e) hk.2
            · cases hh
        | mod =>
          simp only [isz, e1, e2, Option.bind_some] at hh
          cases y2 with
          | none => cases hh
          | some j =>
            simp only at hh
            split at hh
            · rename_i hk
              cases hh
              have hj := B.cs _ rfl
              refine ⟨E _ (op_mod (by rw [hj]; omega)), fun m e => ?_, fun k e => by cases e⟩
              show Pv.bd m ((ival ρ a).fmod (ival ρ b))
              rw [hj]
              cases e
              exact bd_fmod (bd_lit j) hk
            · cases hh
        | pow =>
          simp only [isz, e1, e2, Option.bind_some] at hh
          cases x2 with
          | none => cases hh
          | some i =>
            cases y2 with
            | none => cases hh
            | some j =>
              simp only at hh
              split at hh
              · rename_i hk
                cases hh
                have hi := A.cs _ rfl
                have hj := B.cs _ rfl
                refine ⟨E _ (pow_ok (by rw [hi, hj]; exact hk)), fun m e => ?_, fun k e => ?_⟩
                · show Pv.bd m (ival ρ a ^ (ival ρ b).toNat)
                  rw [hi, hj]
                  cases e
                  exact bd_lit _
                · cases e
                  show ival ρ a ^ (ival ρ b).toNat = _
                  rw [hi, hj]
              · cases hh
        | shl => cases hh
        | band => cases hh
        | bor => cases hh
  | _ =>
    intro n c hh
    cases hh
/-- straight-line whole-number code: it tells a number -/
def islc (σ : Sg) : C → Bool
  | .cons (.asg i [] e) r => match isz σ e with
    | some (n, _) => (match e with | .brw _ => false | _ => true) && decide (i < σ.length) && islc (σ.set i (some n)) r
    | none => false
  | .cons (.ret [] e) _ => match isz σ e with
    | some _ => (match e with | .brw _ => false | _ => true)
    | none => false
  | _ => false
theorem SzI.set {σ : Sg} {ρ : Rho} (h : SzI σ ρ) (hl : ρ.length = σ.length) {i : Nat} {n : Option Nat} {v : Int} {o : Bool} (hi : i < σ.length) (b : ∀ m, n = some m → bd m v) : SzI (σ.set i (some n)) (ρ.set i (some (.int v, o))) := fun j n' hj => by
  by_cases e : i = j
  · subst e
    rw [List.getElem?_set_self hi] at hj
    cases hj
    exact ⟨v, o, by rw [List.getElem?_set_self (by omega)], b⟩
  · rw [List.getElem?_set_ne e] at hj
    rw [List.getElem?_set_ne e]
    exact h j n' hj
theorem asg_int {Φ : Ph} {σ : Sg} {ρ : Rho} (h : SzI σ ρ) {i : Nat} {e : C} {n : Option Nat} {c : Option Int} (hh : isz σ e = some (n, c)) (hb : ios e = .z) : exec Φ (.asg i [] e) ρ = some (.next (ρ.set i (some (.int (ival ρ e), false)))) := by
  have A := isz_ok (Φ := Φ) h hh
  rw [ex_asg]
  show asgX i [] ρ (ev Φ e ρ) = _
  rw [A.ev, hb]; rfl
theorem islc_ok {Φ : Ph} : ∀ {c : C} {σ : Sg} {ρ : Rho}, SzI σ ρ → ρ.length = σ.length → islc σ c = true → ∃ v : Int, exec Φ c ρ = some (.ret (.int v) false) := by
  intro c
  induction c with
  | cons s r ihs ihr =>
    intro σ ρ h hl hc
    cases s with
    | asg i F e =>
      cases F with
      | cons _ _ => cases hc
      | nil =>
        simp only [islc] at hc
        cases e1 : isz σ e with
        | none => rw [e1] at hc; cases hc
        | some x =>
          obtain ⟨n, c'⟩ := x
          rw [e1] at hc
          simp only [Bool.and_eq_true, decide_eq_true_eq] at hc
          obtain ⟨⟨h1, h2⟩, h3⟩ := hc
          have hb : ios e = .z := by cases e <;> first | rfl | cases h1
          have A := isz_ok (Φ := Φ) h e1
          obtain ⟨v, ev⟩ := ihr (h.set hl (v := ival ρ e) (o := false) h2 A.bd) (by simpa using hl) h3
          exact ⟨v, by rw [ex_cons, asg_int h e1 hb]; exact ev⟩
    | ret F e =>
      cases F with
      | cons _ _ => cases hc
      | nil =>
        simp only [islc] at hc
        cases e1 : isz σ e with
        | none => rw [e1] at hc; cases hc
        | some x =>
          rw [e1] at hc
          have hb : ios e = .z := by cases e <;> first | rfl | cases hc
          have A := isz_ok (Φ := Φ) h (n := x.1) (c := x.2) e1
          refine ⟨ival ρ e, ?_⟩
          rw [ex_cons, ex_ret]
          show thn Φ r (rtX (ev Φ e ρ)) = _
          rw [A.ev, hb]; rfl
    | _ => cases hc
  | _ => intro σ ρ _ _ hc; cases hc
end Pv

set_option Elab.async false
set_option linter.all false
set_option maxRecDepth 100000
/-! Lx: the evaluator, step by step: try, except. -/
namespace Pv
open PySem
section
variable (Φ : Ph)
def phX (g : Str) : Option (List D) → Option (D × Bool)
  | some ds => Φ g ds
  | none => none
noncomputable def tryX (is : List Nat) (n : Nat) (h : C) (ρ : Rho) : Option (D × Bool) → Option Out
  | some r => match excO r.1 with
    | some _ => exec Φ h (ρ.set n (some (r.1, false)))
    | none => some (.next (tryO is ρ r))
  | none => none
def hndE (n : Nat) : Option Out → Option Out
  | some (.next ρ') => some (.next (ρ'.set n none))
  | some (.ret d w) => some (.ret d w)
  | _ => none
noncomputable def hndX (n : Nat) (c : Str) (a b : C) (ρ : Rho) : Option Slot → Option Out
  | some (some (d, _)) => match excO d with
    | some x => if x = c then hndE n (exec Φ a (ρ.set n none)) else exec Φ b ρ
    | none => none
  | _ => none
variable {ρ : Rho} {a b : C}
theorem ex_try {is : List Nat} {F : List Nat} {g : Str} {n : Nat} : exec Φ (.tryx is F g a n b) ρ = tryX Φ is n b (frz F ρ) (phX Φ g (evs Φ a (frz F ρ))) := by
  rw [exec]
  cases evs Φ a (frz F ρ) with
  | none => rfl
  | some ds =>
    show (Φ g ds).bind _ = tryX Φ is n b (frz F ρ) (Φ g ds)
    cases Φ g ds with
    | none => rfl
    | some r =>
      show (match excO r.1 with | some _ => _ | none => _) = (match excO r.1 with | some _ => _ | none => _)
      cases excO r.1 <;> rfl
theorem ex_hnd {n : Nat} {c : Str} : exec Φ (.hnd n c a b) ρ = hndX Φ n c a b ρ ρ[n]? := by
  rw [exec]
  unfold excAt
  cases ρ[n]? with
  | none => rfl
  | some s =>
    cases s with
    | none => rfl
    | some p =>
      obtain ⟨d, o⟩ := p
      show (excO d).bind _ = (match excO d with | some x => _ | none => none)
      cases excO d with
      | none => rfl
      | some x =>
        show (if x = c then (exec Φ a (ρ.set n none)).bind (hndO n) else exec Φ b ρ) = if x = c then _ else _
        split
        · cases exec Φ a (ρ.set n none) with
          | none => rfl
          | some o => cases o <;> rfl
        · rfl
theorem try_exc {is : List Nat} {n : Nat} {c : Str} {o : Bool} : tryX Φ is n b ρ (some (excD c, o)) = exec Φ b (ρ.set n (some (excD c, false))) := rfl
theorem try_ok {is : List Nat} {n : Nat} {d : D} {o : Bool} (h : excO d = none) : tryX Φ is n b ρ (some (d, o)) = some (.next (tryO is ρ (d, o))) := by
  unfold tryX
  simp only [h]
theorem try_l {is : List Nat} {n : Nat} {xs : List D} {o : Bool} : tryX Φ is n b ρ (some (.list xs, o)) = some (.next (tryO is ρ (.list xs, o))) := rfl
theorem try_t {is : List Nat} {n : Nat} {xs : List D} {o : Bool} : tryX Φ is n b ρ (some (.tuple xs, o)) = some (.next (tryO is ρ (.tuple xs, o))) := rfl
theorem hnd_eq {n : Nat} {c : Str} {w : Bool} : hndX Φ n c a b ρ (some (some (excD c, w))) = hndE n (exec Φ a (ρ.set n none)) := by
  show (if c = c then _ else _) = _
  rw [if_pos rfl]
theorem hnd_ne {n : Nat} {c x : Str} {w : Bool} (h : x ≠ c) : hndX Φ n c a b ρ (some (some (excD x, w))) = exec Φ b ρ := by
  show (if x = c then _ else _) = _
  rw [if_neg h]
end
theorem tryO_nil {ρ : Rho} {r : D × Bool} : tryO [] ρ r = ρ := rfl
theorem tryO_one {ρ : Rho} {r : D × Bool} {i : Nat} : tryO [i] ρ r = ρ.set i (some r) := rfl
theorem xo_l (xs : List D) : excO (.list xs) = none := rfl
theorem xo_t (xs : List D) : excO (.tuple xs) = none := rfl
theorem xo_i (i : Int) : excO (.int i) = none := rfl
theorem xo_b (b : Bool) : excO (.bool b) = none := rfl
theorem xo_n : excO .none = none := rfl
theorem xo_s (s : Str) : excO (.str s) = none := rfl
theorem fl_x (c : Str) : flat (excD c) = false := rfl
end Pv
namespace Pv
open PySem
/-! loops over written lists -/
noncomputable def forR (Φ : Ph) (t : Tg) (b : C) (ds : List D) : Option Out → Option Out
  | some (.next ρ') => forX Φ t b ρ' (some ds)
  | some (.brk ρ') => some (.next ρ')
  | some (.ret d o) => some (.ret d o)
  | none => none
noncomputable def forK (Φ : Ph) (t : Tg) (b : C) (ds : List D) : Option Rho → Option Out
  | some ρ1 => forR Φ t b ds (exec Φ b ρ1)
  | none => none
theorem fu_nil {Φ : Ph} {t : Tg} {b : C} {ρ : Rho} : forX Φ t b ρ (some []) = some (.next ρ) := rfl
theorem fu_cons {Φ : Ph} {t : Tg} {b : C} {ρ : Rho} {d : D} {ds : List D} : forX Φ t b ρ (some (d :: ds)) = forK Φ t b ds (bindT t d ρ) := by
  show forGo (bindT t) (fun ρ => exec Φ b ρ) (d :: ds) ρ = _
  unfold forGo forK
  cases bindT t d ρ with
  | none => rfl
  | some ρ1 =>
    show (exec Φ b ρ1).bind _ = forR Φ t b ds (exec Φ b ρ1)
    cases exec Φ b ρ1 with
    | none => rfl
    | some o => cases o <;> rfl
theorem eqOk_self {d : D} (c : PyData.canLay0 d = true) (dd : PyData.depth d ≤ 64) : eqOk d d = true ∧ PyData.eqv d d = true := by
  have sh : PySem.SeqAt.shaped d = true := by
    unfold PySem.SeqAt.shaped
    rw [c, decide_eq_true dd]; rfl
  exact ⟨by unfold eqOk; rw [sh]; rfl, PySem.SeqAt.eqv_refl _ c⟩
theorem cm_self {d : D} (c : PyData.canLay0 d = true) (dd : PyData.depth d ≤ 64) : cm .eq d d = some true ∧ cm .ne d d = some false := by
  obtain ⟨h1, h2⟩ := eqOk_self c dd
  exact ⟨by simp only [cm, h1, if_true, h2], by simp only [cm, h1, if_true, h2, Bool.not_true]⟩
end Pv
namespace Pv
theorem ty_lt (x : List D) : isTy .list (.tuple x) = some false := rfl
theorem ty_li (x : Int) : isTy .list (.int x) = some false := rfl
theorem ty_ls (x : PySem.Str) : isTy .list (.str x) = some false := rfl
theorem ty_ss (x : PySem.Str) : isTy .str (.str x) = some true := rfl
theorem ty_sl (x : List D) : isTy .str (.list x) = some false := rfl
theorem ty_st (x : List D) : isTy .str (.tuple x) = some false := rfl
end Pv
namespace Pv
open PySem
/-! comprehensions over written lists -/
def lcT (Φ : Ph) (t : Tg) (cond elt : C) (ρ : Rho) (ds : List D) (ρ1 : Rho) : Option Bool → Option (List D)
  | some true => consX (ev Φ elt ρ1) (lcGoX Φ t cond elt ρ ds)
  | some false => lcGoX Φ t cond elt ρ ds
  | none => none
def lcK (Φ : Ph) (t : Tg) (cond elt : C) (ρ : Rho) (ds : List D) : Option Rho → Option (List D)
  | some ρ1 => lcT Φ t cond elt ρ ds ρ1 (boX (ev Φ cond ρ1))
  | none => none
theorem lu_nil {Φ : Ph} {t : Tg} {cond elt : C} {ρ : Rho} : lcGoX Φ t cond elt ρ [] = some [] := rfl
theorem lu_cons {Φ : Ph} {t : Tg} {cond elt : C} {ρ : Rho} {d : D} {ds : List D} : lcGoX Φ t cond elt ρ (d :: ds) = lcK Φ t cond elt ρ ds (bindT t d ρ) := by
  unfold lcGoX lcK lcT
  simp only [lcGo]
  cases bindT t d ρ with
  | none => rfl
  | some ρ1 =>
    simp only [Option.bind_eq_bind, Option.bind_some]
    rw [bo_eq]
    cases boX (ev Φ cond ρ1) with
    | none => rfl
    | some b =>
      cases b with
      | false => rfl
      | true =>
        simp only [Option.bind_some, if_true]
        cases ev Φ elt ρ1 with
        | none => rfl
        | some r =>
          obtain ⟨d', o⟩ := r
          cases o <;> (unfold lcGoX; cases lcGo t (fun ρ => ev Φ cond ρ) (fun ρ => ev Φ elt ρ) ρ ds <;> rfl)
theorem in_ints (x : Int) (ys : List Int) : cm .inn (.int x) (.tuple (ys.map .int)) = some (decide (x ∈ ys)) := by
  have h : PySem.SeqAt.shaped (.tuple (ys.map PyData.int)) = true := shaped_d (α := PySem.W.Tup Int) (by decide) ⟨ys⟩
  have h2 : PySem.SeqAt.shaped (.int x) = true := shaped_d (α := Int) (by decide) x
  simp only [cm, inO, eqOk, h, h2, Bool.and_self, if_true]
  exact congrArg some (PySem.W.any_datum (α := Int) ys x)
end Pv

set_option Elab.async false
set_option linter.all false
/-! H1: the ring about places, reckoned by stacks. -/
namespace Hu
abbrev P := Int × Int
def turn (a b c : P) : Int := (b.1 - a.1) * (c.2 - a.2) - (b.2 - a.2) * (c.1 - a.1)
def cr (u v : P) : Int := u.1 * v.2 - u.2 * v.1
def lt (a b : P) : Prop := a.1 < b.1 ∨ (a.1 = b.1 ∧ a.2 < b.2)
def pos (u : P) : Prop := 0 < u.1 ∨ (u.1 = 0 ∧ 0 < u.2)
def sb (a b : P) : P := (a.1 - b.1, a.2 - b.2)
theorem lt_pos {a b : P} : lt a b ↔ pos (sb b a) := by
  unfold lt pos sb
  constructor <;> intro h <;> simp at h ⊢ <;> omega
theorem lt_trans {a b c : P} (h : lt a b) (k : lt b c) : lt a c := by unfold lt at *; omega
theorem lt_irrefl {a : P} : ¬ lt a a := by unfold lt; omega
theorem lt_tri (a b : P) : lt a b ∨ a = b ∨ lt b a := by
  obtain ⟨a1, a2⟩ := a
  obtain ⟨b1, b2⟩ := b
  unfold lt
  simp only [Prod.mk.injEq]
  omega
/-- angles in a half plane -/
theorem tr {u v w : P} (hu : pos u) (hv : pos v) (hw : pos w) (h : 0 ≤ cr u v) (k : 0 ≤ cr v w) : 0 ≤ cr u w := by
  unfold cr pos at *
  have id1 : (u.1 * w.2 - u.2 * w.1) * v.1 = (u.1 * v.2 - u.2 * v.1) * w.1 + (v.1 * w.2 - v.2 * w.1) * u.1 := by grind
  have hu1 : 0 ≤ u.1 := by omega
  have hw1 : 0 ≤ w.1 := by omega
  rcases hv with hv | ⟨hv, hv2⟩
  · have e : 0 ≤ (u.1 * w.2 - u.2 * w.1) * v.1 := by
      rw [id1]
      exact Int.add_nonneg (Int.mul_nonneg h hw1) (Int.mul_nonneg k hu1)
    exact Int.nonneg_of_mul_nonneg_left e hv
  · rw [hv] at k
    have k2 : v.2 * w.1 ≤ 0 := by omega
    have hw0 : w.1 = 0 := by
      rcases Int.lt_or_le 0 w.1 with z | z
      · have := Int.mul_pos hv2 z; omega
      · omega
    have hw2 : 0 < w.2 := by omega
    rw [hw0]
    have := Int.mul_nonneg hu1 (Int.le_of_lt hw2)
    omega
theorem tr_lt {u v w : P} (hu : pos u) (hv : pos v) (hw : pos w) (h : 0 < cr u v) (k : 0 ≤ cr v w) : 0 < cr u w := by
  have h1 := tr hu hv hw (Int.le_of_lt h) k
  rcases Int.lt_or_eq_of_le h1 with z | z
  · exact z
  · -- w ≤ u, v ≤ w: so v ≤ u
    have h2 : 0 ≤ cr w u := by unfold cr at *; grind
    have h3 := tr hv hw hu k h2
    unfold cr at *
    grind
theorem turn_cr (a b c : P) : turn a b c = cr (sb b a) (sb c a) := rfl
theorem turn_cr2 (a b c : P) : turn a b c = cr (sb b a) (sb c b) := by unfold turn cr sb; grind
theorem turn_rot (a b c : P) : turn a b c = turn b c a := by unfold turn; grind
theorem turn_self (a b : P) : turn a b b = 0 := by unfold turn; grind
theorem turn_self1 (a b : P) : turn a b a = 0 := by unfold turn; grind
theorem turn_self2 (a b : P) : turn a a b = 0 := by unfold turn; grind
theorem turn_swap (a b c : P) : turn b a c = - turn a b c := by unfold turn; grind
/-! ### the stack: its top ahead -/
def popW : List P → P → List P
  | b :: a :: r, p => if turn a b p ≤ 0 then popW (a :: r) p else b :: a :: r
  | st, _ => st
def push (st : List P) (p : P) : List P := p :: popW st p
def chain (ps : List P) : List P := ps.foldl push []
/-- neighbours in a stack turn -/
def Tn : List P → Prop
  | c :: b :: a :: r => 0 < turn a b c ∧ Tn (b :: a :: r)
  | _ => True
/-- q is on the left of each side -/
def Lf (q : P) : List P → Prop
  | b :: a :: r => 0 ≤ turn a b q ∧ Lf q (a :: r)
  | _ => True
/-- falling -/
def Dn : List P → Prop
  | b :: a :: r => lt a b ∧ Dn (a :: r)
  | _ => True
theorem Tn.tail {a : P} {r : List P} (h : Tn (a :: r)) : Tn r := by
  match r, h with
  | [], _ => trivial
  | [_], _ => trivial
  | _ :: _ :: _, h => exact h.2
theorem Lf.tail {q a : P} {r : List P} (h : Lf q (a :: r)) : Lf q r := by
  match r, h with
  | [], _ => trivial
  | _ :: _, h => exact h.2
theorem Dn.tail {a : P} {r : List P} (h : Dn (a :: r)) : Dn r := by
  match r, h with
  | [], _ => trivial
  | _ :: _, h => exact h.2
theorem Dn.ltm : ∀ {a b : P} {r : List P}, Dn (a :: r) → b ∈ r → lt b a
  | _, _, [], _, h => by cases h
  | a, b, c :: r, h, m => by
    rcases List.mem_cons.mp m with rfl | m
    · exact h.1
    · exact lt_trans (Dn.ltm h.2 m) h.1
/-- a left turn into p at the top: all the sides have p on the left -/
theorem Lf.ahead : ∀ {p : P} {t : P} {r : List P}, Tn (p :: t :: r) → Dn (p :: t :: r) → Lf p (t :: r)
  | _, _, [], _, _ => trivial
  | p, t, s :: r, h, d => by
    refine ⟨Int.le_of_lt h.1, ?_⟩
    match r, h, d with
    | [], _, _ => trivial
    | q :: r, h, d =>
      refine Lf.ahead (p := p) (t := s) (r := q :: r) ⟨?_, h.2.2⟩ ⟨lt_trans d.2.1 d.1, d.2.2⟩
      -- turn q s p
      have h1 := h.1
      have h2 := h.2.1
      have d1 := lt_pos.mp d.1
      have d2 := lt_pos.mp d.2.1
      have d3 := lt_pos.mp d.2.2.1
      rw [turn_cr2] at h1 h2
      have h3 := tr_lt d3 d2 d1 h2 (Int.le_of_lt h1)
      have e : turn q s p = cr (sb s q) (sb t s) + cr (sb s q) (sb p t) := by unfold turn cr sb; grind
      omega
/-- what is popped: the stack goes on from a part of it -/
structure PopI (qs : List P) (p : P) (st : List P) : Prop where
  tn : Tn st
  dn : Dn (p :: st)
  lf : ∀ q ∈ qs, Lf q st
  /-- those beyond the top lie on the left of the way from the top to p -/
  top : ∀ t r, st = t :: r → ∀ q ∈ qs, lt t q → 0 ≤ turn t p q
theorem popW_ok {qs : List P} {p : P} : ∀ {st : List P}, PopI qs p st → (∀ q ∈ qs, lt q p) → PopI qs p (popW st p) ∧ Tn (p :: popW st p) ∧ (st ≠ [] → (popW st p) ≠ [] ∧ (popW st p).getLast? = st.getLast?)
  | [], h, _ => ⟨h, trivial, fun z => absurd rfl z⟩
  | [a], h, _ => ⟨h, trivial, fun _ => ⟨by simp [popW], rfl⟩⟩
  | b :: a :: r, h, hp => by
    unfold popW
    by_cases k : turn a b p ≤ 0
    · rw [if_pos k]
      have hh : PopI qs p (a :: r) := by
        refine ⟨h.tn.tail, ⟨lt_trans h.dn.2.1 h.dn.1, h.dn.2.2⟩, fun q hq => (h.lf q hq).tail, fun t r' e q hq htq => ?_⟩
        cases e
        have l1 := (h.lf q hq).1
        have u : pos (sb p a) := lt_pos.mp (lt_trans h.dn.2.1 h.dn.1)
        have v : pos (sb b a) := lt_pos.mp h.dn.2.1
        have w : pos (sb q a) := lt_pos.mp htq
        refine tr u v w ?_ l1
        have := turn_cr a b p
        unfold cr at *
        grind
      obtain ⟨h1, h2, h3⟩ := popW_ok (st := a :: r) hh hp
      refine ⟨h1, h2, fun _ => ⟨(h3 (by simp)).1, ?_⟩⟩
      rw [(h3 (by simp)).2]
      simp
    · rw [if_neg k]
      exact ⟨h, ⟨by omega, h.tn⟩, fun _ => ⟨by simp, rfl⟩⟩
/-- behind a place -/
structure ChI (qs : List P) (st : List P) : Prop where
  tn : Tn st
  dn : Dn st
  lf : ∀ q ∈ qs, Lf q st
  sub : ∀ q ∈ st, q ∈ qs
  hi : ∀ t, st.head? = some t → ∀ q ∈ qs, q = t ∨ lt q t
  low : ∀ l, st.getLast? = some l → ∀ q ∈ qs, q = l ∨ lt l q
  ne : st = [] → qs = []
theorem popW_mem {p q : P} : ∀ {st : List P}, q ∈ popW st p → q ∈ st
  | [], h => h
  | [_], h => h
  | b :: a :: r, h => by
    unfold popW at h
    split at h
    · exact List.mem_cons_of_mem _ (popW_mem (st := a :: r) h)
    · exact h
theorem push_ok {qs : List P} {st : List P} {p : P} (h : ChI qs st) (hp : ∀ q ∈ qs, lt q p) : ChI (qs ++ [p]) (push st p) := by
  by_cases e : st = []
  · have hq : qs = [] := h.ne e
    subst e hq
    exact ⟨trivial, trivial, fun _ _ => trivial, fun q hq => by simpa [push, popW] using hq, fun t ht q hq => by
      simp [push, popW] at ht hq; subst ht; exact .inl hq, fun l hl q hq => by
      simp [push, popW] at hl hq; subst hl; exact .inl hq, by simp [push]⟩
  · have pi : PopI qs p st := by
      refine ⟨h.tn, ?_, h.lf, fun t r e q hq htq => ?_⟩
      · cases st with
        | nil => trivial
        | cons t r => exact ⟨hp t (h.sub t List.mem_cons_self), h.dn⟩
      · subst e
        rcases h.hi t rfl q hq with rfl | z
        · exact absurd htq lt_irrefl
        · exact absurd (lt_trans htq z) lt_irrefl
    obtain ⟨pj, tn, hl⟩ := popW_ok pi hp
    obtain ⟨ne, la⟩ := hl e
    have sub : ∀ q ∈ popW st p, q ∈ qs := fun q hq => h.sub q (popW_mem hq)
    unfold push
    generalize popW st p = st' at *
    cases st' with
    | nil => exact absurd rfl ne
    | cons t r =>
      have lfp : Lf p (p :: t :: r) := ⟨by rw [turn_self]; exact Int.le_refl _, Lf.ahead tn pj.dn⟩
      refine ⟨tn, pj.dn, fun q hq => ?_, fun q hq => ?_, fun t' ht q hq => ?_, fun l hl q hq => ?_, by simp⟩
      · rcases List.mem_append.mp hq with hq | hq
        · refine ⟨?_, pj.lf q hq⟩
          rcases lt_tri t q with z | z | z
          · exact pj.top t r rfl q hq z
          · subst z; rw [turn_self1]; exact Int.le_refl _
          · match r, tn, pj with
            | [], _, _ =>
              have := h.low t (by rw [← la]; rfl) q hq
              rcases this with rfl | z2
              · exact absurd z lt_irrefl
              · exact absurd (lt_trans z z2) lt_irrefl
            | s :: r, tn, pj =>
              have l1 := (pj.lf q hq).1
              have l2 := tn.1
              have u : pos (sb t s) := lt_pos.mp pj.dn.2.1
              have v : pos (sb p t) := lt_pos.mp pj.dn.1
              have w : pos (sb t q) := lt_pos.mp z
              have l3 : 0 ≤ cr (sb t q) (sb t s) := by rw [turn_cr] at l1; unfold cr sb at *; grind
              rw [turn_cr2] at l2
              have := tr w u v l3 (Int.le_of_lt l2)
              unfold cr sb turn at *
              grind
        · rw [List.mem_singleton.mp hq]; exact lfp
      · rcases List.mem_cons.mp hq with rfl | hq
        · simp
        · exact List.mem_append_left _ (sub q hq)
      · cases ht
        rcases List.mem_append.mp hq with hq | hq
        · exact .inr (hp q hq)
        · exact .inl (List.mem_singleton.mp hq)
      · rw [List.getLast?_cons_cons, la] at hl
        rcases List.mem_append.mp hq with hq | hq
        · exact h.low l hl q hq
        · rw [List.mem_singleton.mp hq]
          exact .inr (hp l (h.sub l (List.mem_of_getLast? hl)))
/-- rising -/
def Up : List P → Prop
  | a :: b :: r => lt a b ∧ Up (b :: r)
  | _ => True
theorem Up.tail {a : P} {r : List P} (h : Up (a :: r)) : Up r := by
  match r, h with
  | [], _ => trivial
  | _ :: _, h => exact h.2
theorem Up.ltm : ∀ {a b : P} {r : List P}, Up (a :: r) → b ∈ r → lt a b
  | _, _, [], _, h => by cases h
  | a, b, c :: r, h, m => by
    rcases List.mem_cons.mp m with rfl | m
    · exact h.1
    · exact lt_trans h.1 (Up.ltm h.2 m)
theorem chain_go : ∀ {ps qs st : List P}, ChI qs st → Up ps → (∀ q ∈ qs, ∀ p ∈ ps, lt q p) → ChI (qs ++ ps) (ps.foldl push st)
  | [], qs, st, h, _, _ => by simpa using h
  | p :: ps, qs, st, h, u, l => by
    have h1 := push_ok h (p := p) fun q hq => l q hq p List.mem_cons_self
    have := chain_go (ps := ps) h1 u.tail fun q hq p' hp' => by
      rcases List.mem_append.mp hq with hq | hq
      · exact l q hq p' (List.mem_cons_of_mem _ hp')
      · rw [List.mem_singleton.mp hq]; exact u.ltm hp'
    rw [List.append_assoc] at this
    exact this
theorem chain_ok {ps : List P} (u : Up ps) : ChI ps (chain ps) := by
  have z : ChI [] [] := ⟨trivial, trivial, fun q h => (List.not_mem_nil h).elim, fun q h => h, fun t h => by simp at h, fun t h => by simp at h, fun _ => rfl⟩
  have := chain_go (ps := ps) (qs := []) (st := []) z u fun q h => (List.not_mem_nil h).elim
  rw [List.nil_append] at this
  exact this
/-! ### the way back, seen from behind -/
def ng (p : P) : P := (-p.1, -p.2)
theorem ng_ng (p : P) : ng (ng p) = p := by unfold ng; simp
theorem turn_ng (a b c : P) : turn (ng a) (ng b) (ng c) = turn a b c := by unfold turn ng; grind
theorem lt_ng {a b : P} : lt (ng a) (ng b) ↔ lt b a := by unfold lt ng; simp; omega
theorem popW_ng {p : P} : ∀ st : List P, popW (st.map ng) (ng p) = (popW st p).map ng
  | [] => rfl
  | [_] => rfl
  | b :: a :: r => by
    have ih := popW_ng (p := p) (a :: r)
    simp only [List.map_cons] at ih
    simp only [List.map_cons, popW, turn_ng]
    split
    · exact ih
    · rfl
theorem chain_ng (ps : List P) : chain (ps.map ng) = (chain ps).map ng := by
  have go : ∀ (ps st : List P), (ps.map ng).foldl push (st.map ng) = (ps.foldl push st).map ng := by
    intro ps
    induction ps with
    | nil => intro st; rfl
    | cons p ps ih =>
      intro st
      simp only [List.map_cons, List.foldl_cons]
      rw [← ih (push st p)]
      congr 1
      unfold push
      rw [popW_ng]; rfl
  exact go ps []
theorem Tn_ng : ∀ {st : List P}, Tn (st.map ng) → Tn st
  | [], _ => trivial
  | [_], _ => trivial
  | [_, _], _ => trivial
  | c :: b :: a :: r, h => by
    simp only [List.map_cons] at h
    exact ⟨by have := h.1; rwa [turn_ng] at this, Tn_ng (st := b :: a :: r) (by simpa using h.2)⟩
theorem Lf_ng {q : P} : ∀ {st : List P}, Lf (ng q) (st.map ng) → Lf q st
  | [], _ => trivial
  | [_], _ => trivial
  | b :: a :: r, h => by
    simp only [List.map_cons] at h
    exact ⟨by have := h.1; rwa [turn_ng] at this, Lf_ng (st := a :: r) (by simpa using h.2)⟩
theorem Dn_ng : ∀ {st : List P}, Dn (st.map ng) → Up st
  | [], _ => trivial
  | [_], _ => trivial
  | b :: a :: r, h => by
    simp only [List.map_cons] at h
    exact ⟨lt_ng.mp h.1, Dn_ng (st := a :: r) (by simpa using h.2)⟩
theorem Up.snoc : ∀ {r : List P} {a : P}, Up r → (∀ q ∈ r, lt q a) → Up (r ++ [a])
  | [], _, _, _ => trivial
  | [b], a, _, h => ⟨h b (by simp), trivial⟩
  | b :: c :: r, a, u, h => ⟨u.1, Up.snoc (r := c :: r) u.2 fun q hq => h q (List.mem_cons_of_mem _ hq)⟩
theorem Up.rev_ng : ∀ {ps : List P}, Up ps → Up (ps.reverse.map ng)
  | [], _ => trivial
  | a :: r, u => by
    rw [List.reverse_cons, List.map_append]
    refine Up.snoc (Up.rev_ng u.tail) fun q hq => ?_
    obtain ⟨x, hx, rfl⟩ := List.mem_map.mp hq
    exact lt_ng.mpr (u.ltm (List.mem_reverse.mp hx))
structure BkI (qs : List P) (st : List P) : Prop where
  tn : Tn st
  up : Up st
  lf : ∀ q ∈ qs, Lf q st
  sub : ∀ q ∈ st, q ∈ qs
  low : ∀ t, st.head? = some t → ∀ q ∈ qs, q = t ∨ lt t q
  hi : ∀ l, st.getLast? = some l → ∀ q ∈ qs, q = l ∨ lt q l
  ne : st = [] → qs = []
theorem back_ok {ps : List P} (u : Up ps) : BkI ps (chain ps.reverse) := by
  have h := chain_ok u.rev_ng
  rw [chain_ng] at h
  have mm : ∀ q ∈ ps, ng q ∈ ps.reverse.map ng := fun q hq => List.mem_map_of_mem (List.mem_reverse.mpr hq)
  refine ⟨Tn_ng h.tn, Dn_ng h.dn, fun q hq => Lf_ng (h.lf _ (mm q hq)), fun q hq => ?_, fun t ht q hq => ?_, fun l hl q hq => ?_, fun e => ?_⟩
  · have := h.sub (ng q) (List.mem_map_of_mem hq)
    obtain ⟨x, hx, e⟩ := List.mem_map.mp this
    have : x = q := by rw [← ng_ng x, e, ng_ng]
    subst this
    exact List.mem_reverse.mp hx
  · rcases h.hi (ng t) (by rw [List.head?_map, ht]; rfl) (ng q) (mm q hq) with e | e
    · left; rw [← ng_ng q, e, ng_ng]
    · right; exact lt_ng.mp e
  · rcases h.low (ng l) (by rw [List.getLast?_map, hl]; rfl) (ng q) (mm q hq) with e | e
    · left; rw [← ng_ng q, e, ng_ng]
    · right; exact lt_ng.mp e
  · have := h.ne (by rw [e]; rfl)
    simpa using this
end Hu

set_option Elab.async false
set_option linter.all false
namespace Hu
theorem Lf.at : ∀ {st : List P} {q a b : P} {i : Nat}, Lf q st → st[i]? = some b → st[i + 1]? = some a → 0 ≤ turn a b q
  | [], _, _, _, _, _, e, _ => by simp at e
  | [_], _, _, _, i, _, _, e => by simp at e
  | b :: a :: r, q, a', b', 0, h, e1, e2 => by simp at e1 e2; subst e1 e2; exact h.1
  | b :: a :: r, q, a', b', i + 1, h, e1, e2 => Lf.at (st := a :: r) (i := i) h.2 (by simpa using e1) (by simpa using e2)
theorem Tn.at : ∀ {st : List P} {a b c : P} {i : Nat}, Tn st → st[i]? = some c → st[i + 1]? = some b → st[i + 2]? = some a → 0 < turn a b c
  | [], _, _, _, _, _, e, _, _ => by simp at e
  | [_], _, _, _, i, _, _, e, _ => by simp at e
  | [_, _], _, _, _, i, _, _, _, e => by simp at e
  | c :: b :: a :: r, a', b', c', 0, h, e1, e2, e3 => by simp at e1 e2 e3; subst e1 e2 e3; exact h.1
  | c :: b :: a :: r, a', b', c', i + 1, h, e1, e2, e3 => Tn.at (st := b :: a :: r) (i := i) h.2 (by simpa using e1) (by simpa using e2) (by simpa using e3)
theorem Dn.at : ∀ {st : List P} {a b : P} {i : Nat}, Dn st → st[i]? = some b → st[i + 1]? = some a → lt a b
  | [], _, _, _, _, e, _ => by simp at e
  | [_], _, _, i, _, _, e => by simp at e
  | b :: a :: r, a', b', 0, h, e1, e2 => by simp at e1 e2; subst e1 e2; exact h.1
  | b :: a :: r, a', b', i + 1, h, e1, e2 => Dn.at (st := a :: r) (i := i) h.2 (by simpa using e1) (by simpa using e2)
theorem Up.at : ∀ {st : List P} {a b : P} {i : Nat}, Up st → st[i]? = some b → st[i + 1]? = some a → lt b a
  | [], _, _, _, _, e, _ => by simp at e
  | [_], _, _, i, _, _, e => by simp at e
  | b :: a :: r, a', b', 0, h, e1, e2 => by simp at e1 e2; subst e1 e2; exact h.1
  | b :: a :: r, a', b', i + 1, h, e1, e2 => Up.at (st := a :: r) (i := i) h.2 (by simpa using e1) (by simpa using e2)
theorem Dn.nodup : ∀ {st : List P}, Dn st → st.Nodup
  | [], _ => List.nodup_nil
  | a :: r, h => List.nodup_cons.mpr ⟨fun m => lt_irrefl (Dn.ltm h m), Dn.nodup h.tail⟩
theorem Up.nodup : ∀ {st : List P}, Up st → st.Nodup
  | [], _ => List.nodup_nil
  | a :: r, h => List.nodup_cons.mpr ⟨fun m => lt_irrefl (Up.ltm h m), Up.nodup h.tail⟩
theorem joinL : ∀ {A B : List P} {j q : P}, Lf q (A ++ [j]) → Lf q (j :: B) → Lf q (A ++ j :: B)
  | [], _, _, _, _, h => h
  | [c], _, _, _, g, h => ⟨g.1, h⟩
  | c :: d :: A, B, j, q, g, h => ⟨g.1, joinL (A := d :: A) g.2 h⟩
theorem joinT : ∀ {A B : List P} {j : P}, Tn (A ++ [j]) → Tn (j :: B) → (∀ c a, A.getLast? = some c → B.head? = some a → 0 < turn a j c) → Tn (A ++ j :: B)
  | [], _, _, _, h, _ => h
  | [c], [], _, _, _, _ => trivial
  | [c], a :: B, j, _, h, k => ⟨k c a rfl rfl, h⟩
  | [c, d], B, j, g, h, k => ⟨g.1, joinT (A := [d]) g.2 h fun c' a e1 e2 => k c' a (by simpa using e1) e2⟩
  | c :: d :: e :: A, B, j, g, h, k => ⟨g.1, joinT (A := d :: e :: A) g.2 h fun c' a e1 e2 => k c' a (by simpa using e1) e2⟩
/-- a corner at the far end that does not turn: all is flat -/
theorem corner {p c s : P} {qs : List P} (hc : ∀ q ∈ qs, q = c ∨ lt q c) (hp : ∀ q ∈ qs, 0 ≤ turn p c q) (hs : ∀ q ∈ qs, 0 ≤ turn c s q) (mp : lt p c) (ms : lt s c) (z : turn p c s ≤ 0) : ∀ q ∈ qs, ∀ q' ∈ qs, turn c q q' = 0 := by
  have key : ∀ q ∈ qs, q ≠ c → 0 ≤ cr (sb c p) (sb c q) ∧ 0 ≤ cr (sb c q) (sb c p) := fun q hq hn => by
    have l : lt q c := (hc q hq).resolve_left hn
    have h1 := hp q hq
    have h2 := hs q hq
    have a1 : 0 ≤ cr (sb c q) (sb c p) := by unfold turn at h1; unfold cr sb; grind
    have a2 : 0 ≤ cr (sb c s) (sb c q) := by unfold turn at h2; unfold cr sb; grind
    have a3 : 0 ≤ cr (sb c p) (sb c s) := by unfold turn at z; unfold cr sb; grind
    exact ⟨tr (lt_pos.mp mp) (lt_pos.mp ms) (lt_pos.mp l) a3 a2, a1⟩
  intro q hq q' hq'
  by_cases e : q = c
  · subst e; exact turn_self2 _ _
  by_cases e' : q' = c
  · subst e'; exact turn_self1 _ _
  have k1 := key q hq e
  have k2 := key q' hq' e'
  have l1 := lt_pos.mp ((hc q hq).resolve_left e)
  have l2 := lt_pos.mp ((hc q' hq').resolve_left e')
  have l3 := lt_pos.mp mp
  have b1 := tr l1 l3 l2 k1.2 k2.1
  have b2 := tr l2 l3 l1 k2.2 k1.1
  have e3 : turn c q q' = cr (sb c q) (sb c q') := by unfold turn cr sb; grind
  have e4 : cr (sb c q') (sb c q) = - cr (sb c q) (sb c q') := by unfold cr sb; grind
  omega
theorem corner0 {p c s : P} {qs : List P} (hc : ∀ q ∈ qs, q = c ∨ lt c q) (hp : ∀ q ∈ qs, 0 ≤ turn p c q) (hs : ∀ q ∈ qs, 0 ≤ turn c s q) (mp : lt c p) (ms : lt c s) (z : turn p c s ≤ 0) : ∀ q ∈ qs, ∀ q' ∈ qs, turn c q q' = 0 := by
  have h := corner (p := ng p) (c := ng c) (s := ng s) (qs := qs.map ng) (fun q hq => by
      obtain ⟨x, hx, rfl⟩ := List.mem_map.mp hq
      rcases hc x hx with rfl | h
      · exact .inl rfl
      · exact .inr (lt_ng.mpr h)) (fun q hq => by
      obtain ⟨x, hx, rfl⟩ := List.mem_map.mp hq
      rw [turn_ng]; exact hp x hx) (fun q hq => by
      obtain ⟨x, hx, rfl⟩ := List.mem_map.mp hq
      rw [turn_ng]; exact hs x hx) (lt_ng.mpr mp) (lt_ng.mpr ms) (by rw [turn_ng]; exact z)
  intro q hq q' hq'
  have := h (ng q) (List.mem_map_of_mem hq) (ng q') (List.mem_map_of_mem hq')
  rwa [turn_ng] at this
/-- the ring -/
def ring (ps : List P) : List P := (chain ps).tail.reverse ++ (chain ps.reverse).tail.reverse
def flat (ps : List P) (l f : P) : Prop := ∀ q ∈ ps, turn l f q = 0
/-- the two stacks and their ends -/
structure Ends (ps : List P) (l f : P) (A B : List P) : Prop where
  eB : chain ps = f :: B
  eA : chain ps.reverse = l :: A
  lB : B.getLast? = some l
  lA : A.getLast? = some f
  l0 : ∀ q ∈ ps, q = l ∨ lt l q
  f0 : ∀ q ∈ ps, q = f ∨ lt q f
  lf : lt l f
  ml : l ∈ ps
  mf : f ∈ ps
theorem ends {ps : List P} {l f : P} (u : Up ps) (hl : ps.head? = some l) (hf : ps.getLast? = some f) (n : l ≠ f) : ∃ A B, Ends ps l f A B := by
  have c := chain_ok u
  have b := back_ok u
  have ml : l ∈ ps := List.mem_of_head? hl
  have mf : f ∈ ps := List.mem_of_getLast? hf
  have l0 : ∀ q ∈ ps, q = l ∨ lt l q := fun q hq => by
    cases ps with
    | nil => cases hq
    | cons a r =>
      simp at hl
      subst hl
      rcases List.mem_cons.mp hq with h | h
      · exact .inl h
      · exact .inr (u.ltm h)
  have f0 : ∀ q ∈ ps, q = f ∨ lt q f := fun q hq => by
    have u2 := u.rev_ng
    have hf2 : (ps.reverse.map ng).head? = some (ng f) := by rw [List.head?_map, List.head?_reverse, hf]; rfl
    have hq2 : ng q ∈ ps.reverse.map ng := List.mem_map_of_mem (List.mem_reverse.mpr hq)
    generalize ps.reverse.map ng = L at *
    cases L with
    | nil => cases hq2
    | cons a r =>
      simp at hf2
      subst hf2
      rcases List.mem_cons.mp hq2 with h | h
      · left; rw [← ng_ng q, h, ng_ng]
      · right; exact lt_ng.mp (u2.ltm h)
  have lf : lt l f := (l0 f mf).resolve_left fun e => n e.symm
  have asym : ∀ x y : P, lt x y → lt y x → False := fun x y h k => lt_irrefl (lt_trans h k)
  have hB : ∃ B, chain ps = f :: B ∧ B.getLast? = some l := by
    cases e : chain ps with
    | nil => rw [c.ne e] at ml; cases ml
    | cons t r =>
      have h1 : t = f := by
        have ht := c.sub t (by rw [e]; exact List.mem_cons_self)
        rcases c.hi t (by rw [e]; rfl) f mf with h | h
        · exact h.symm
        · rcases f0 t ht with h' | h'
          · exact h'
          · exact (asym _ _ h h').elim
      subst h1
      refine ⟨r, rfl, ?_⟩
      cases e2 : (t :: r).getLast? with
      | none => simp at e2
      | some z =>
        have hz := c.sub z (by rw [e]; exact List.mem_of_getLast? e2)
        have h2 : z = l := by
          rcases c.low z (by rw [e]; exact e2) l ml with h | h
          · exact h.symm
          · rcases l0 z hz with h' | h'
            · exact h'
            · exact (asym _ _ h h').elim
        subst h2
        cases r with
        | nil => simp at e2; exact absurd e2.symm n
        | cons a r => rwa [List.getLast?_cons_cons] at e2
  have hA : ∃ A, chain ps.reverse = l :: A ∧ A.getLast? = some f := by
    cases e : chain ps.reverse with
    | nil => rw [b.ne e] at ml; cases ml
    | cons t r =>
      have h1 : t = l := by
        have ht := b.sub t (by rw [e]; exact List.mem_cons_self)
        rcases b.low t (by rw [e]; rfl) l ml with h | h
        · exact h.symm
        · rcases l0 t ht with h' | h'
          · exact h'
          · exact (asym _ _ h h').elim
      subst h1
      refine ⟨r, rfl, ?_⟩
      cases e2 : (t :: r).getLast? with
      | none => simp at e2
      | some z =>
        have hz := b.sub z (by rw [e]; exact List.mem_of_getLast? e2)
        have h2 : z = f := by
          rcases b.hi z (by rw [e]; exact e2) f mf with h | h
          · exact h.symm
          · rcases f0 z hz with h' | h'
            · exact h'
            · exact (asym _ _ h h').elim
        subst h2
        cases r with
        | nil => simp at e2; exact absurd e2 n
        | cons a r => rwa [List.getLast?_cons_cons] at e2
  obtain ⟨B, hB1, hB2⟩ := hB
  obtain ⟨A, hA1, hA2⟩ := hA
  exact ⟨A, B, hB1, hA1, hB2, hA2, l0, f0, lf, ml, mf⟩
section
variable {ps A B : List P} {l f : P}
theorem Ends.ring_eq (E : Ends ps l f A B) : ring ps = B.reverse ++ A.reverse := by
  unfold ring; rw [E.eB, E.eA]; rfl
theorem mem_tail_at {x : P} : ∀ {a : P} {r : List P}, x ∈ r → ∃ i c, (a :: r)[i]? = some c ∧ (a :: r)[i + 1]? = some x := fun {a r} h => by
  obtain ⟨i, hi, e⟩ := List.mem_iff_getElem.mp h
  refine ⟨i, (a :: r)[i]'(by simp; omega), List.getElem?_eq_getElem _, ?_⟩
  rw [List.getElem?_cons_succ, List.getElem?_eq_getElem hi, e]
theorem Ends.sep (E : Ends ps l f A B) (u : Up ps) : ∀ x ∈ B, x ∈ A → False := fun x hB hA => by
  have c := chain_ok u
  have b := back_ok u
  obtain ⟨i, s, h1, h2⟩ := mem_tail_at (a := f) hB
  obtain ⟨j, a', h3, h4⟩ := mem_tail_at (a := l) hA
  rw [← E.eB] at h1 h2
  rw [← E.eA] at h3 h4
  have hxf : lt x f := by
    have := c.dn
    rw [E.eB] at this
    exact this.ltm hB
  have hxl : lt l x := by
    have := b.up
    rw [E.eA] at this
    exact this.ltm hA
  -- the next one in A
  have hlt : j + 2 < (chain ps.reverse).length := by
    rcases Nat.lt_or_ge (j + 2) (chain ps.reverse).length with h | h
    · exact h
    · have hj : j + 1 < (chain ps.reverse).length := (List.getElem?_eq_some_iff.mp h4).1
      have e : (chain ps.reverse).getLast? = some x := by
        rw [List.getLast?_eq_getElem?]
        have : (chain ps.reverse).length - 1 = j + 1 := by omega
        rw [this]; exact h4
      rw [E.eA] at e
      have e2 : A.getLast? = some x := by
        cases A with
        | nil => cases hA
        | cons y r => rwa [List.getLast?_cons_cons] at e
      rw [E.lA] at e2
      cases e2
      exact (lt_irrefl hxf).elim
  have h5 : (chain ps.reverse)[j + 2]? = some ((chain ps.reverse)[j + 2]) := List.getElem?_eq_getElem hlt
  generalize (chain ps.reverse)[j + 2] = c' at h5
  have t1 := b.tn.at h3 h4 h5
  have d1 := b.up.at h3 h4
  have d2 := b.up.at h4 h5
  have d3 := c.dn.at h1 h2
  have ma : a' ∈ ps := b.sub _ (List.mem_of_getElem? h3)
  have mc : c' ∈ ps := b.sub _ (List.mem_of_getElem? h5)
  have q1 := (c.lf c' mc).at h1 h2
  have q2 := (c.lf a' ma).at h1 h2
  have r1 : 0 ≤ cr (sb s x) (sb c' x) := q1
  have r2 : 0 ≤ cr (sb x a') (sb s x) := by unfold turn at q2; unfold cr sb; grind
  have r3 := tr (lt_pos.mp d1) (lt_pos.mp d3) (lt_pos.mp d2) r2 r1
  unfold turn at t1
  unfold cr sb at r3
  grind
theorem nd_rev {L : List P} (h : L.Nodup) : L.reverse.Nodup := by
  unfold List.Nodup at *
  rw [List.pairwise_reverse]
  exact h.imp fun k => k.symm
theorem Ends.nodup (E : Ends ps l f A B) (u : Up ps) : (ring ps).Nodup := by
  have c := (chain_ok u).dn
  have b := (back_ok u).up
  rw [E.eB] at c
  rw [E.eA] at b
  rw [E.ring_eq, List.nodup_append]
  refine ⟨nd_rev c.tail.nodup, nd_rev b.tail.nodup, fun x hx y hy e => ?_⟩
  subst e
  exact E.sep u x (List.mem_reverse.mp hx) (List.mem_reverse.mp hy)
theorem Ends.sub (E : Ends ps l f A B) (u : Up ps) : ∀ x ∈ ring ps, x ∈ ps := fun x hx => by
  rw [E.ring_eq] at hx
  rcases List.mem_append.mp hx with h | h
  · exact (chain_ok u).sub x (by rw [E.eB]; exact List.mem_cons_of_mem _ (List.mem_reverse.mp h))
  · exact (back_ok u).sub x (by rw [E.eA]; exact List.mem_cons_of_mem _ (List.mem_reverse.mp h))
theorem snoc_of {L : List P} {x : P} (h : L.getLast? = some x) : ∃ M, L = M ++ [x] := by
  rcases List.eq_nil_or_concat L with e | ⟨M, y, e⟩
  · subst e; cases h
  · subst e
    simp at h
    subst h
    exact ⟨M, by simp⟩
/-- the walk round: A's stack, then B's -/
theorem Ends.walkL (E : Ends ps l f A B) (u : Up ps) : ∀ q ∈ ps, Lf q (l :: (A ++ B)) := fun q hq => by
  have h1 := (chain_ok u).lf q hq
  have h2 := (back_ok u).lf q hq
  rw [E.eB] at h1
  rw [E.eA] at h2
  obtain ⟨M, rfl⟩ := snoc_of E.lA
  have := joinL (A := l :: M) (j := f) h2 h1
  simpa using this
theorem flat3 (h : flat ps l f) (k : lt l f) {a b c : P} (ha : a ∈ ps) (hb : b ∈ ps) (hc : c ∈ ps) : turn a b c = 0 := by
  have z : ∀ x y : P, turn l f x = 0 → turn l f y = 0 → cr (sb x l) (sb y l) = 0 := fun x y hx hy => by
    have e1 : cr (sb x l) (sb y l) * (f.1 - l.1) = 0 := by
      have : cr (sb x l) (sb y l) * (f.1 - l.1) = turn l f y * (x.1 - l.1) - turn l f x * (y.1 - l.1) := by unfold cr sb turn; grind
      rw [this, hx, hy]; simp
    have e2 : cr (sb x l) (sb y l) * (f.2 - l.2) = 0 := by
      have : cr (sb x l) (sb y l) * (f.2 - l.2) = turn l f y * (x.2 - l.2) - turn l f x * (y.2 - l.2) := by unfold cr sb turn; grind
      rw [this, hx, hy]; simp
    rcases Int.mul_eq_zero.mp e1 with h | h
    · exact h
    · rcases Int.mul_eq_zero.mp e2 with h' | h'
      · exact h'
      · unfold lt at k; omega
  have h1 := z a b (h a ha) (h b hb)
  have h2 := z b c (h b hb) (h c hc)
  have h3 := z a c (h a ha) (h c hc)
  have : turn a b c = cr (sb a l) (sb b l) + cr (sb b l) (sb c l) - cr (sb a l) (sb c l) := by unfold turn cr sb; grind
  omega
theorem Ends.flat_ring (E : Ends ps l f A B) (u : Up ps) (h : flat ps l f) : ring ps = [l, f] := by
  have c := chain_ok u
  have b := back_ok u
  have hB : B = [l] := by
    have t := c.tn
    have sub := c.sub
    rw [E.eB] at t sub
    have lB := E.lB
    match B, t, sub, lB with
    | [], _, _, e => cases e
    | [x], _, _, e => simp at e; rw [e]
    | x :: y :: r, t, sub, _ =>
      have := flat3 h E.lf (sub y (by simp)) (sub x (by simp)) (sub f (by simp))
      have := t.1
      omega
  have hA : A = [f] := by
    have t := b.tn
    have sub := b.sub
    rw [E.eA] at t sub
    have lA := E.lA
    match A, t, sub, lA with
    | [], _, _, e => cases e
    | [x], _, _, e => simp at e; rw [e]
    | x :: y :: r, t, sub, _ =>
      have := flat3 h E.lf (sub y (by simp)) (sub x (by simp)) (sub l (by simp))
      have := t.1
      omega
  rw [E.ring_eq, hA, hB]; rfl
theorem at_rev {T : List P} {i : Nat} {a : P} (h : T.reverse[i]? = some a) : i < T.length ∧ T[T.length - 1 - i]? = some a := by
  have hi : i < T.length := by have := (List.getElem?_eq_some_iff.mp h).1; simpa using this
  exact ⟨hi, by rwa [List.getElem?_reverse hi] at h⟩
/-- the walk round turns to the left, all round -/
theorem Ends.walk (E : Ends ps l f A B) (u : Up ps) (h : ¬ flat ps l f) : ∃ x, Tn (x :: l :: (A ++ B)) ∧ (∀ q ∈ ps, Lf q (x :: l :: (A ++ B))) ∧ (A ++ B).reverse[1]? = some x ∧ (A ++ B).reverse[0]? = some l ∧ 3 ≤ (A ++ B).length := by
  have c := chain_ok u
  have b := back_ok u
  have WL := E.walkL u
  have c2 := E.eB ▸ c
  have b2 := E.eA ▸ b
  obtain ⟨A', rfl⟩ := snoc_of E.lA
  obtain ⟨B', rfl⟩ := snoc_of E.lB
  have no : ∀ z, z ∈ ps → (∀ q ∈ ps, ∀ q' ∈ ps, turn z q q' = 0) → (z = f ∨ z = l) → False := fun z hz k e => by
    refine h fun q hq => ?_
    rcases e with rfl | rfl
    · have := k l E.ml q hq
      rw [turn_swap]; omega
    · exact k f E.mf q hq
  have hx : ∃ M x, f :: B' = M ++ [x] := by
    cases e : (f :: B').getLast? with
    | none => simp at e
    | some x =>
      obtain ⟨M, e2⟩ := snoc_of e
      exact ⟨M, x, e2⟩
  obtain ⟨M, x, hM⟩ := hx
  have hst : f :: (B' ++ [l]) = M ++ [x] ++ [l] := by rw [← hM]; rfl
  have ix : (f :: (B' ++ [l]))[M.length]? = some x := by rw [hst]; simp
  have il : (f :: (B' ++ [l]))[M.length + 1]? = some l := by rw [hst, List.getElem?_append_right (by simp)]; simp
  have mx : x ∈ ps := c2.sub x (List.mem_of_getElem? ix)
  have dx : lt l x := c2.dn.at ix il
  have hc : ∃ N c, l :: A' = N ++ [c] := by
    cases e : (l :: A').getLast? with
    | none => simp at e
    | some x =>
      obtain ⟨M, e2⟩ := snoc_of e
      exact ⟨M, x, e2⟩
  obtain ⟨N, y, hN⟩ := hc
  have hsa : l :: (A' ++ [f]) = N ++ [y] ++ [f] := by rw [← hN]; rfl
  have iy : (l :: (A' ++ [f]))[N.length]? = some y := by rw [hsa]; simp
  have iff' : (l :: (A' ++ [f]))[N.length + 1]? = some f := by rw [hsa, List.getElem?_append_right (by simp)]; simp
  have T1 : Tn (l :: (A' ++ [f] ++ (B' ++ [l]))) := by
    have := joinT (A := l :: A') (j := f) (B := B' ++ [l]) b2.tn c2.tn fun c' a e1 e2 => by
      have ec : c' = y := by rw [hN] at e1; simpa using e1.symm
      subst ec
      obtain ⟨r, er⟩ : ∃ r, B' ++ [l] = a :: r := by
        cases hh : B' ++ [l] with
        | nil => rw [hh] at e2; cases e2
        | cons z r => rw [hh] at e2; cases e2; exact ⟨r, rfl⟩
      rcases Int.lt_or_le 0 (turn a f c') with k | k
      · exact k
      · refine (no f E.mf (corner (p := a) (s := c') E.f0 (fun q hq => ?_) (fun q hq => (b2.lf q hq).at iy iff') ?_ (b2.up.at iy iff') k) (.inl rfl)).elim
        · have := c2.lf q hq
          rw [er] at this
          exact this.1
        · have := c2.dn
          rw [er] at this
          exact this.1
    simpa using this
  obtain ⟨z, r, ez⟩ : ∃ z r, A' ++ [f] = z :: r := by
    cases hh : A' ++ [f] with
    | nil => simp at hh
    | cons z r => exact ⟨z, r, rfl⟩
  have hl : ∀ q ∈ ps, 0 ≤ turn l x q := fun q hq => (c2.lf q hq).at ix il
  have len : 3 ≤ (A' ++ [f] ++ (B' ++ [l])).length := by
    rcases Nat.lt_or_ge 2 (A' ++ [f] ++ (B' ++ [l])).length with k | k
    · exact k
    · refine (h fun q hq => ?_).elim
      have e1 : A' = [] := List.eq_nil_of_length_eq_zero (by simp at k; omega)
      have e2 : B' = [] := List.eq_nil_of_length_eq_zero (by simp at k; omega)
      subst e1 e2
      have k1 := (c2.lf q hq).1
      have k2 := (b2.lf q hq).1
      rw [turn_swap] at k2
      omega
  refine ⟨x, ?_, fun q hq => ⟨hl q hq, WL q hq⟩, ?_, by simp, len⟩
  · refine (show Tn (x :: l :: (A' ++ [f] ++ (B' ++ [l]))) from ?_)
    rw [ez] at T1 ⊢
    refine ⟨?_, T1⟩
    rcases Int.lt_or_le 0 (turn z l x) with k | k
    · exact k
    · refine (no l E.ml (corner0 (p := z) (s := x) E.l0 (fun q hq => ?_) hl ?_ dx k) (.inr rfl)).elim
      · have := b2.lf q hq
        rw [ez] at this
        exact this.1
      · have := b2.up
        rw [ez] at this
        exact this.1
  · have e : A' ++ [f] ++ (B' ++ [l]) = A' ++ M ++ [x] ++ [l] := by
      rw [List.append_assoc, show [f] ++ (B' ++ [l]) = f :: (B' ++ [l]) from rfl, hst]
      simp
    rw [e]
    simp
/-- THE RING of places that are not all on one line -/
structure RingOk (ps R : List P) (l x : P) : Prop where
  len : 3 ≤ R.length
  r0 : R[0]? = some l
  r1 : R[1]? = some x
  nd : R.Nodup
  sub : ∀ q ∈ R, q ∈ ps
  tri : ∀ i a b c, (R ++ [l, x])[i]? = some a → (R ++ [l, x])[i + 1]? = some b → (R ++ [l, x])[i + 2]? = some c → 0 < turn a b c ∧ ∀ q ∈ ps, 0 ≤ turn b c q
theorem Ends.ok (E : Ends ps l f A B) (u : Up ps) (h : ¬ flat ps l f) : ∃ x, RingOk ps (ring ps) l x := by
  obtain ⟨x, t, lf, r1, r0, len⟩ := E.walk u h
  have e : ring ps = (A ++ B).reverse := by rw [E.ring_eq, List.reverse_append]
  refine ⟨x, by rw [e, List.length_reverse]; exact len, by rw [e]; exact r0, by rw [e]; exact r1, E.nodup u, E.sub u, fun i a b c h1 h2 h3 => ?_⟩
  have er : ring ps ++ [l, x] = (x :: l :: (A ++ B)).reverse := by rw [e]; simp
  rw [er] at h1 h2 h3
  generalize x :: l :: (A ++ B) = T at *
  obtain ⟨_, g1⟩ := at_rev h1
  obtain ⟨_, g2⟩ := at_rev h2
  obtain ⟨k3, g3⟩ := at_rev h3
  have j1 : T.length - 1 - i = (T.length - 1 - (i + 2)) + 2 := by omega
  have j2 : T.length - 1 - (i + 1) = (T.length - 1 - (i + 2)) + 1 := by omega
  rw [j1] at g1
  rw [j2] at g2
  exact ⟨t.at g3 g2 g1, fun q hq => (lf q hq).at g3 g2⟩
end
end Hu

set_option Elab.async false
set_option linter.all false
set_option maxRecDepth 100000
/-! H3: the hull of data. -/
namespace Pv
open PySem PySem.W
def key (p : P) : List Int := [p.1, p.2]
theorem key_inj {p q : P} (h : key p = key q) : p = q := by
  unfold key at h
  injection h with h1 h2
  injection h2 with h2 h3
  exact Prod.ext h1 h2
theorem tupI_key (p : P) : tupI (key p) = tp p := rfl
theorem tupsO_tp : ∀ ps : List P, tupsO (ps.map tp) = some (ps.map key)
  | [] => rfl
  | p :: ps => by
    show tupsO (.tuple [.int p.1, .int p.2] :: ps.map tp) = _
    simp only [tupsO, intsO, Option.map_some, Option.bind_some, tupsO_tp ps]
    rfl
theorem setOk_key {ps : List P} (h : ps.length < 64) : setOk (ps.map key) = true := by
  unfold setOk
  simp [h, key]
theorem le_key {p q : P} (h : key p ≤ key q) : p = q ∨ Hu.lt p q := by
  unfold key at h
  have h2 := h
  rw [List.cons_le_cons_iff] at h2
  rcases h2 with h2 | ⟨h2, h3⟩
  · right; left; exact h2
  · rw [List.cons_le_cons_iff] at h3
    rcases h3 with h3 | ⟨h3, _⟩
    · right; right; exact ⟨h2, h3⟩
    · left; exact Prod.ext h2 h3
theorem up_of {L : List P} (s : L.Pairwise fun a b => key a ≤ key b) (n : L.Nodup) : Hu.Up L := by
  induction L with
  | nil => trivial
  | cons a r ih =>
    have ih := ih (List.pairwise_cons.mp s).2 (List.nodup_cons.mp n).2
    match r, s, n, ih with
    | [], _, _, _ => trivial
    | b :: r, s, n, ih =>
      refine ⟨?_, ih⟩
      rcases le_key ((List.pairwise_cons.mp s).1 b List.mem_cons_self) with e | h
      · exact absurd (by rw [e]; exact List.mem_cons_self) (List.nodup_cons.mp n).1
      · exact h
theorem keys_of : ∀ {K : List (List Int)} {ps : List P}, (∀ k ∈ K, k ∈ ps.map key) → ∃ L : List P, K = L.map key
  | [], _, _ => ⟨[], rfl⟩
  | k :: K, ps, h => by
    obtain ⟨L, e⟩ := keys_of (K := K) (ps := ps) fun x hx => h x (List.mem_cons_of_mem _ hx)
    obtain ⟨p, _, e2⟩ := List.mem_map.mp (h k List.mem_cons_self)
    exact ⟨p :: L, by rw [List.map_cons, e2, e]⟩
theorem nd_erase {α : Type} [BEq α] [LawfulBEq α] : ∀ (n : Nat) (L : List α), L.length ≤ n → L.eraseDups.Nodup
  | _, [], _ => by simp
  | 0, _ :: _, h => by simp at h
  | n + 1, a :: r, h => by
    rw [List.eraseDups_cons, List.nodup_cons]
    refine ⟨fun m => ?_, nd_erase n _ (Nat.le_trans (List.length_filter_le _ _) (by simpa using h))⟩
    rw [List.mem_eraseDups, List.mem_filter] at m
    simp at m
theorem sortTup_key (ps : List P) : ∃ L : List P, sortTup (ps.map key) = L.map key ∧ Hu.Up L ∧ (∀ q, q ∈ L ↔ q ∈ ps) := by
  have mm : ∀ k, k ∈ sortTup (ps.map key) ↔ k ∈ ps.map key := fun k => by
    unfold sortTup
    rw [List.mem_mergeSort, List.mem_eraseDups]
  obtain ⟨L, e⟩ := keys_of (K := sortTup (ps.map key)) (ps := ps) fun k hk => (mm k).mp hk
  have nd : (sortTup (ps.map key)).Nodup := by
    unfold sortTup
    exact (List.mergeSort_perm _ _).nodup_iff.mpr (nd_erase _ _ (Nat.le_refl _))
  have so : (sortTup (ps.map key)).Pairwise fun a b => a ≤ b := by
    have := List.pairwise_mergeSort (le := fun a b : List Int => decide (a ≤ b)) (fun a b c h1 h2 => by
      simp only [decide_eq_true_eq] at *; exact List.le_trans h1 h2) (fun a b => by
      simp only [Bool.or_eq_true, decide_eq_true_eq]; exact List.le_total a b) (ps.map key).eraseDups
    exact this.imp fun h => by simpa using h
  refine ⟨L, e, ?_, fun q => ?_⟩
  · rw [e] at nd so
    exact up_of (List.pairwise_map.mp so) (by
      unfold List.Nodup at *
      exact (List.pairwise_map.mp nd).imp fun h e => h (by rw [e]))
  · have := mm (key q)
    rw [e, List.mem_map, List.mem_map] at this
    constructor
    · intro h
      obtain ⟨x, hx, e⟩ := this.mp ⟨q, h, rfl⟩
      rw [← key_inj e]; exact hx
    · intro h
      obtain ⟨x, hx, e⟩ := this.mpr ⟨q, h, rfl⟩
      rw [← key_inj e]; exact hx
theorem xb_sortedSet {ps : List P} (h : ps.length < 64) : ∃ L : List P, biO .sortedSet [.list (ps.map tp)] = some (.list (L.map tp), .f) ∧ Hu.Up L ∧ (∀ q, q ∈ L ↔ q ∈ ps) := by
  obtain ⟨L, e, u, m⟩ := sortTup_key ps
  refine ⟨L, ?_, u, m⟩
  simp only [biO, bi1, onL, asL, Option.bind_some, tupsO_tp, setOk_key h, if_true, e, List.map_map]
  rfl
theorem eraseDups_nodup {α : Type} [BEq α] [LawfulBEq α] : ∀ {L : List α}, L.Nodup → L.eraseDups = L
  | [], _ => by simp
  | a :: r, h => by
    obtain ⟨h1, h2⟩ := List.nodup_cons.mp h
    rw [List.eraseDups_cons]
    have : List.filter (fun b => !b == a) r = r := by
      rw [List.filter_eq_self]
      intro b hb
      have : b ≠ a := fun e => h1 (e ▸ hb)
      simpa using this
    rw [this, eraseDups_nodup h2]
theorem xb_lenSet {ps : List P} (h : ps.length < 64) (n : ps.Nodup) : biO .lenSet [.list (ps.map tp)] = some (.int (ps.length : Nat), .z) := by
  have nd : (ps.map key).Nodup := by
    unfold List.Nodup at *
    exact List.pairwise_map.mpr (n.imp fun h e => h (key_inj e))
  simp only [biO, bi1, onL, asL, Option.bind_some, tupsO_tp, setOk_key h, if_true, eraseDups_nodup nd, List.length_map]
theorem nd_len {α : Type} [BEq α] [LawfulBEq α] : ∀ {R L : List α}, R.Nodup → (∀ x ∈ R, x ∈ L) → R.length ≤ L.length
  | [], _, _, _ => Nat.zero_le _
  | a :: R, L, n, h => by
    obtain ⟨n1, n2⟩ := List.nodup_cons.mp n
    have ha := h a List.mem_cons_self
    have := nd_len (R := R) (L := L.erase a) n2 fun x hx => (List.mem_erase_of_ne fun e => n1 (by rw [← e]; exact hx)).mpr (h x (List.mem_cons_of_mem _ hx))
    rw [List.length_erase_of_mem ha] at this
    have := List.length_pos_of_mem ha
    simp only [List.length_cons]
    omega
/-- the hull, as it is told -/
def hullP (L : List P) : List P := if L.length < 3 then L else Hu.ring L
end Pv

set_option Elab.async false
set_option linter.all false
set_option maxRecDepth 100000
/-! G07: the roof generator's parts. -/
namespace K07
open Pv
open PySem (PyData Str)
open PySem.W (Datum DatumOrd minOf maxOf)
/-- a fraction that is fit: sizes, a bottom above nought -/
structure fr (n : Nat) (p : P) : Prop where
  a : bd n p.1
  b : bd n p.2
  pos : 0 < p.2
  co : Nat.gcd p.1.natAbs p.2.natAbs = 1
theorem bd_abs {n : Nat} {x y : Int} (h : bd n x) (k : y.natAbs ≤ x.natAbs) : bd n y := bd_of (Nat.lt_of_le_of_lt k h.lt)
theorem wh_low {Φ : Ph} : ∀ (b a : Nat) (s0 s1 : Slot), whX Φ (.cmp .gt (.brw 3) (.cst (.int 0))) (.cons (.par 2 3 (.cons (.var 3) (.cons (.bin .mod (.brw 2) (.brw 3)) .nil))) .nil) [s0, s1, some (.int (a : Nat), false), some (.int (b : Nat), false)] = some (.next [s0, s1, some (.int (Nat.gcd a b : Nat), false), some (.int 0, false)]) := by
  intro b
  induction b using Nat.strongRecOn with
  | _ b ih =>
    intro a s0 s1
    by_cases hb : b = 0
    · subst hb
      rw [Nat.gcd_zero_right]
      exact wx_end (by simp [init, ev_var, ev_brw, ev_cst, ev_bin, ev_neg, ev_not, ev_cmp, ev_and, ev_or, ev_ite, ev_call, ev_bi, ev_isi, ev_idx, ev_sl, ev_tup, ev_lst, ev_lc, evs_nil, evs_cons, evb_nil, evb_cons, evo_nil, evo_cons, ex_nil, ex_pass, ex_brk, ex_cons, ex_asg, ex_unp, ex_par, ex_aug, ex_ret, ex_retv, ex_iff, ex_for, ex_forc, forcX.eq_1, ex_whl, ex_app, ex_seti, ev_dnew, ev_dnewI, setkX.eq_1, setiX.eq_1, setiX.eq_2, ex_try, ex_hnd, phX.eq_1, try_exc, try_l, try_t, tryO_nil, tryO_one, hnd_eq, hndE.eq_1, hndE.eq_2, ex_pop, ex_clr, ex_revl, varX.eq_1, varX.eq_2, brwX.eq_1, binX.eq_1, negX.eq_1, notX.eq_1, cmpX.eq_1, boX.eq_1, andX.eq_1, andX.eq_2, orX.eq_1, orX.eq_2, iteX.eq_1, iteX.eq_2, retX.eq_1, retX.eq_2, callX.eq_1, biX.eq_1, isiX.eq_1, idxX.eq_1, slX.eq_1, tupX.eq_1, lstX.eq_1, iterX.eq_1, lcX.eq_1, consX.eq_1, consX.eq_2, consB.eq_1, oX.eq_1, thn.eq_1, thn.eq_2, thn.eq_3, asgX.eq_1, asgX.eq_2, unpX.eq_1, unpX.eq_2, parX.eq_1, augX.eq_1, retvX.eq_1, rtX.eq_1, rtX.eq_2, iffX.eq_1, iffX.eq_2, putX.eq_1, ownX.eq_1, appX.eq_1, appX.eq_2, popX.eq_1, mapX.eq_1, frz, frzAt, aft, asI, asB, asT, asTL.eq_1, asTL.eq_2, asL, fl_t, fl_l, fl_d, fl_i, fl_b, fl_n, fl_tp, fa_nil, fa_cons, fa_tp, fa_int, ks_l, ks_lz, ks_t, ks_i, ks_b, ks_n, ks_d, ks_tp, aftR, sc_l, sc_t, sc_i, sc_b, sc_n, outV, ty_ii, ty_bi, ty_ll, ty_tt, ty_bb, ty_ib, ty_lt, ty_li, ty_ls, ty_ss, ty_sl, ty_st, bindT, setMany, setL, intAt, catL, cm_lt, cm_le, cm_gt, cm_ge, cm_eqi, cm_nei, op_add, op_sub, op_mul, op_fdiv, op_mod, ix_t0, ix_t1, ix_t2, scal_tp, pow_ok, len_l, len_t, len_s, xb_abs, xb_max2, xb_min2, xb_list, xb_listT, xb_intb, xb_inti, xb_min, xb_max, it_seq, it_seqT, it_seqS, it_enum, it_zip, it_rev])
    · have hlt := Nat.mod_lt a (Nat.pos_of_ne_zero hb)
      have e : Nat.gcd a b = Nat.gcd b (a % b) := by rw [Nat.gcd_comm, Nat.gcd_rec, Nat.gcd_comm]
      rw [e]
      have md : ((a : Int)).fmod (b : Int) = ((a % b : Nat) : Int) := by
        rw [Int.fmod_eq_emod_of_nonneg _ (by omega)]
        exact (Int.natCast_emod a b).symm
      have nz : (b : Int) ≠ 0 := by omega
      have ps : (0 : Int) < (b : Int) := by omega
      refine wx_turn ?_ ?_ (ih (a % b) hlt b s0 s1)
      · simp [init, ev_var, ev_brw, ev_cst, ev_bin, ev_neg, ev_not, ev_cmp, ev_and, ev_or, ev_ite, ev_call, ev_bi, ev_isi, ev_idx, ev_sl, ev_tup, ev_lst, ev_lc, evs_nil, evs_cons, evb_nil, evb_cons, evo_nil, evo_cons, ex_nil, ex_pass, ex_brk, ex_cons, ex_asg, ex_unp, ex_par, ex_aug, ex_ret, ex_retv, ex_iff, ex_for, ex_forc, forcX.eq_1, ex_whl, ex_app, ex_seti, ev_dnew, ev_dnewI, setkX.eq_1, setiX.eq_1, setiX.eq_2, ex_try, ex_hnd, phX.eq_1, try_exc, try_l, try_t, tryO_nil, tryO_one, hnd_eq, hndE.eq_1, hndE.eq_2, ex_pop, ex_clr, ex_revl, varX.eq_1, varX.eq_2, brwX.eq_1, binX.eq_1, negX.eq_1, notX.eq_1, cmpX.eq_1, boX.eq_1, andX.eq_1, andX.eq_2, orX.eq_1, orX.eq_2, iteX.eq_1, iteX.eq_2, retX.eq_1, retX.eq_2, callX.eq_1, biX.eq_1, isiX.eq_1, idxX.eq_1, slX.eq_1, tupX.eq_1, lstX.eq_1, iterX.eq_1, lcX.eq_1, consX.eq_1, consX.eq_2, consB.eq_1, oX.eq_1, thn.eq_1, thn.eq_2, thn.eq_3, asgX.eq_1, asgX.eq_2, unpX.eq_1, unpX.eq_2, parX.eq_1, augX.eq_1, retvX.eq_1, rtX.eq_1, rtX.eq_2, iffX.eq_1, iffX.eq_2, putX.eq_1, ownX.eq_1, appX.eq_1, appX.eq_2, popX.eq_1, mapX.eq_1, frz, frzAt, aft, asI, asB, asT, asTL.eq_1, asTL.eq_2, asL, fl_t, fl_l, fl_d, fl_i, fl_b, fl_n, fl_tp, fa_nil, fa_cons, fa_tp, fa_int, ks_l, ks_lz, ks_t, ks_i, ks_b, ks_n, ks_d, ks_tp, aftR, sc_l, sc_t, sc_i, sc_b, sc_n, outV, ty_ii, ty_bi, ty_ll, ty_tt, ty_bb, ty_ib, ty_lt, ty_li, ty_ls, ty_ss, ty_sl, ty_st, bindT, setMany, setL, intAt, catL, cm_lt, cm_le, cm_gt, cm_ge, cm_eqi, cm_nei, op_add, op_sub, op_mul, op_fdiv, op_mod, ix_t0, ix_t1, ix_t2, scal_tp, pow_ok, len_l, len_t, len_s, xb_abs, xb_max2, xb_min2, xb_list, xb_listT, xb_intb, xb_inti, xb_min, xb_max, it_seq, it_seqT, it_seqS, it_enum, it_zip, it_rev, ps]
        omega
      · simp only [ex_cons, ex_par, evs_cons, ev_var, ev_bin, ev_brw, List.getElem?_cons_succ, List.getElem?_cons_zero, varX.eq_1, brwX.eq_1, binX.eq_1, op_mod nz, md, evs_nil, consX.eq_1, parX.eq_1, List.set_cons_succ, List.set_cons_zero, thn.eq_1, ex_nil]
theorem exact_div {s q : Int} (h : s ≠ 0) : (s * q).fdiv s = q := Int.mul_fdiv_cancel_left q h
theorem e_low {Φ : Ph} (h : Impl Φ "_law_low" f__law_low) {a b : Int} {n : Nat} (ha : bd n a) (hb : bd n b) (hn : n ≤ 8000) (h0 : b ≠ 0) : ∃ p : P, Φ "_law_low" [.int a, .int b] = some (tp p, false) ∧ fr n p ∧ p.1 * b = p.2 * a := by
  have w := fun s0 s1 => wh_low (Φ := Φ) b.natAbs a.natAbs s0 s1
  generalize hg : Nat.gcd a.natAbs b.natAbs = g at w
  have g0 : 0 < g := by rw [← hg]; exact Nat.gcd_pos_of_pos_right _ (Int.natAbs_pos.mpr h0)
  obtain ⟨x, hx⟩ : (g : Int) ∣ a := by rw [← hg]; exact Int.natAbs_dvd_natAbs.mp (by simpa using Nat.gcd_dvd_left a.natAbs b.natAbs)
  obtain ⟨y, hy⟩ : (g : Int) ∣ b := by rw [← hg]; exact Int.natAbs_dvd_natAbs.mp (by simpa using Nat.gcd_dvd_right a.natAbs b.natAbs)
  have gb : bd n (g : Int) := bd_abs hb (by
    have := Nat.le_of_dvd (Int.natAbs_pos.mpr h0) (show g ∣ b.natAbs by rw [← hg]; exact Nat.gcd_dvd_right _ _)
    simpa using this)
  have gi : (0 : Int) < (g : Int) := by omega
  have cxy : Nat.gcd x.natAbs y.natAbs = 1 := by
    have e : Nat.gcd (g * x.natAbs) (g * y.natAbs) = g := by
      have h1 : a.natAbs = g * x.natAbs := by rw [hx, Int.natAbs_mul]; rfl
      have h2 : b.natAbs = g * y.natAbs := by rw [hy, Int.natAbs_mul]; rfl
      rw [← h1, ← h2]; exact hg
    rw [Nat.gcd_mul_left] at e
    exact Nat.eq_of_mul_eq_mul_left g0 (by rw [e, Nat.mul_one])
  rw [h, ev_f _ rfl]
  by_cases s : b < 0
  · have d1 : divOk (-(g : Int)) = true := divOk_bd (bd_neg gb) (by omega) (by omega)
    have ex : a.fdiv (-(g : Int)) = -x := by
      have : a = (-(g : Int)) * (-x) := by rw [Int.neg_mul_neg]; exact hx
      rw [this]; exact exact_div (by omega)
    have ey : b.fdiv (-(g : Int)) = -y := by
      have : b = (-(g : Int)) * (-y) := by rw [Int.neg_mul_neg]; exact hy
      rw [this]; exact exact_div (by omega)
    have y0 : y < 0 := by
      rcases Int.lt_or_le y 0 with z | z
      · exact z
      · have := Int.mul_nonneg (Int.le_of_lt gi) z; omega
    refine ⟨(-x, -y), ?_, ⟨bd_neg (bd_abs ha ?_), bd_neg (bd_abs hb ?_), by show 0 < -y; omega, by show Nat.gcd (-x).natAbs (-y).natAbs = 1; rw [Int.natAbs_neg, Int.natAbs_neg]; exact cxy⟩, ?_⟩
    · simp [f__law_low, init, ev_var, ev_brw, ev_cst, ev_bin, ev_neg, ev_not, ev_cmp, ev_and, ev_or, ev_ite, ev_call, ev_bi, ev_isi, ev_idx, ev_sl, ev_tup, ev_lst, ev_lc, evs_nil, evs_cons, evb_nil, evb_cons, evo_nil, evo_cons, ex_nil, ex_pass, ex_brk, ex_cons, ex_asg, ex_unp, ex_par, ex_aug, ex_ret, ex_retv, ex_iff, ex_for, ex_forc, forcX.eq_1, ex_whl, ex_app, ex_seti, ev_dnew, ev_dnewI, setkX.eq_1, setiX.eq_1, setiX.eq_2, ex_try, ex_hnd, phX.eq_1, try_exc, try_l, try_t, tryO_nil, tryO_one, hnd_eq, hndE.eq_1, hndE.eq_2, ex_pop, ex_clr, ex_revl, varX.eq_1, varX.eq_2, brwX.eq_1, binX.eq_1, negX.eq_1, notX.eq_1, cmpX.eq_1, boX.eq_1, andX.eq_1, andX.eq_2, orX.eq_1, orX.eq_2, iteX.eq_1, iteX.eq_2, retX.eq_1, retX.eq_2, callX.eq_1, biX.eq_1, isiX.eq_1, idxX.eq_1, slX.eq_1, tupX.eq_1, lstX.eq_1, iterX.eq_1, lcX.eq_1, consX.eq_1, consX.eq_2, consB.eq_1, oX.eq_1, thn.eq_1, thn.eq_2, thn.eq_3, asgX.eq_1, asgX.eq_2, unpX.eq_1, unpX.eq_2, parX.eq_1, augX.eq_1, retvX.eq_1, rtX.eq_1, rtX.eq_2, iffX.eq_1, iffX.eq_2, putX.eq_1, ownX.eq_1, appX.eq_1, appX.eq_2, popX.eq_1, mapX.eq_1, frz, frzAt, aft, asI, asB, asT, asTL.eq_1, asTL.eq_2, asL, fl_t, fl_l, fl_d, fl_i, fl_b, fl_n, fl_tp, fa_nil, fa_cons, fa_tp, fa_int, ks_l, ks_lz, ks_t, ks_i, ks_b, ks_n, ks_d, ks_tp, aftR, sc_l, sc_t, sc_i, sc_b, sc_n, outV, ty_ii, ty_bi, ty_ll, ty_tt, ty_bb, ty_ib, ty_lt, ty_li, ty_ls, ty_ss, ty_sl, ty_st, bindT, setMany, setL, intAt, catL, cm_lt, cm_le, cm_gt, cm_ge, cm_eqi, cm_nei, op_add, op_sub, op_mul, op_fdiv, op_mod, ix_t0, ix_t1, ix_t2, scal_tp, pow_ok, len_l, len_t, len_s, xb_abs, xb_max2, xb_min2, xb_list, xb_listT, xb_intb, xb_inti, xb_min, xb_max, it_seq, it_seqT, it_seqS, it_enum, it_zip, it_rev, w, s, op_fdiv d1, ex, ey, tp]
    · rw [hx, Int.natAbs_mul]; exact Nat.le_mul_of_pos_left _ (by simpa using g0)
    · rw [hy, Int.natAbs_mul]; exact Nat.le_mul_of_pos_left _ (by simpa using g0)
    · show -x * b = -y * a
      rw [hx, hy]; grind
  · have d1 : divOk ((g : Int)) = true := divOk_bd gb (by omega) (by omega)
    have ex : a.fdiv ((g : Int)) = x := by rw [hx]; exact exact_div (by omega)
    have ey : b.fdiv ((g : Int)) = y := by rw [hy]; exact exact_div (by omega)
    have y0 : 0 < y := by
      rcases Int.lt_or_le 0 y with z | z
      · exact z
      · have : (g : Int) * y ≤ 0 := Int.mul_nonpos_of_nonneg_of_nonpos (Int.le_of_lt gi) z
        omega
    refine ⟨(x, y), ?_, ⟨bd_abs ha ?_, bd_abs hb ?_, y0, cxy⟩, ?_⟩
    · simp [f__law_low, init, ev_var, ev_brw, ev_cst, ev_bin, ev_neg, ev_not, ev_cmp, ev_and, ev_or, ev_ite, ev_call, ev_bi, ev_isi, ev_idx, ev_sl, ev_tup, ev_lst, ev_lc, evs_nil, evs_cons, evb_nil, evb_cons, evo_nil, evo_cons, ex_nil, ex_pass, ex_brk, ex_cons, ex_asg, ex_unp, ex_par, ex_aug, ex_ret, ex_retv, ex_iff, ex_for, ex_forc, forcX.eq_1, ex_whl, ex_app, ex_seti, ev_dnew, ev_dnewI, setkX.eq_1, setiX.eq_1, setiX.eq_2, ex_try, ex_hnd, phX.eq_1, try_exc, try_l, try_t, tryO_nil, tryO_one, hnd_eq, hndE.eq_1, hndE.eq_2, ex_pop, ex_clr, ex_revl, varX.eq_1, varX.eq_2, brwX.eq_1, binX.eq_1, negX.eq_1, notX.eq_1, cmpX.eq_1, boX.eq_1, andX.eq_1, andX.eq_2, orX.eq_1, orX.eq_2, iteX.eq_1, iteX.eq_2, retX.eq_1, retX.eq_2, callX.eq_1, biX.eq_1, isiX.eq_1, idxX.eq_1, slX.eq_1, tupX.eq_1, lstX.eq_1, iterX.eq_1, lcX.eq_1, consX.eq_1, consX.eq_2, consB.eq_1, oX.eq_1, thn.eq_1, thn.eq_2, thn.eq_3, asgX.eq_1, asgX.eq_2, unpX.eq_1, unpX.eq_2, parX.eq_1, augX.eq_1, retvX.eq_1, rtX.eq_1, rtX.eq_2, iffX.eq_1, iffX.eq_2, putX.eq_1, ownX.eq_1, appX.eq_1, appX.eq_2, popX.eq_1, mapX.eq_1, frz, frzAt, aft, asI, asB, asT, asTL.eq_1, asTL.eq_2, asL, fl_t, fl_l, fl_d, fl_i, fl_b, fl_n, fl_tp, fa_nil, fa_cons, fa_tp, fa_int, ks_l, ks_lz, ks_t, ks_i, ks_b, ks_n, ks_d, ks_tp, aftR, sc_l, sc_t, sc_i, sc_b, sc_n, outV, ty_ii, ty_bi, ty_ll, ty_tt, ty_bb, ty_ib, ty_lt, ty_li, ty_ls, ty_ss, ty_sl, ty_st, bindT, setMany, setL, intAt, catL, cm_lt, cm_le, cm_gt, cm_ge, cm_eqi, cm_nei, op_add, op_sub, op_mul, op_fdiv, op_mod, ix_t0, ix_t1, ix_t2, scal_tp, pow_ok, len_l, len_t, len_s, xb_abs, xb_max2, xb_min2, xb_list, xb_listT, xb_intb, xb_inti, xb_min, xb_max, it_seq, it_seqT, it_seqS, it_enum, it_zip, it_rev, w, s, op_fdiv d1, ex, ey, tp]
    · rw [hx, Int.natAbs_mul]; exact Nat.le_mul_of_pos_left _ (by simpa using g0)
    · rw [hy, Int.natAbs_mul]; exact Nat.le_mul_of_pos_left _ (by simpa using g0)
    · show x * b = y * a
      rw [hx, hy]; grind
theorem e_cell_s {Φ : Ph} (h : Impl Φ "_law_cell_at" f__law_cell_at) (ns : List Int) (k : Nat) : ∃ v : Int, Φ "_law_cell_at" [scr (ns.map .int), .int k] = some (.int v, false) := by
  rw [h, ev_f _ rfl]
  by_cases z : k < ns.length
  · have e : L2.atI (ns.map PyData.int) (k : Int) = some (.int ns[k]) := atI_nat (by simp [z])
    exact ⟨ns[k], by simp [f__law_cell_at, init, ev_var, ev_brw, ev_cst, ev_bin, ev_neg, ev_not, ev_cmp, ev_and, ev_or, ev_ite, ev_call, ev_bi, ev_isi, ev_idx, ev_sl, ev_tup, ev_lst, ev_lc, evs_nil, evs_cons, evb_nil, evb_cons, evo_nil, evo_cons, ex_nil, ex_pass, ex_brk, ex_cons, ex_asg, ex_unp, ex_par, ex_aug, ex_ret, ex_retv, ex_iff, ex_for, ex_forc, forcX.eq_1, ex_whl, ex_app, ex_seti, ev_dnew, ev_dnewI, setkX.eq_1, setiX.eq_1, setiX.eq_2, ex_try, ex_hnd, phX.eq_1, try_exc, try_l, try_t, tryO_nil, tryO_one, hnd_eq, hndE.eq_1, hndE.eq_2, ex_pop, ex_clr, ex_revl, varX.eq_1, varX.eq_2, brwX.eq_1, binX.eq_1, negX.eq_1, notX.eq_1, cmpX.eq_1, boX.eq_1, andX.eq_1, andX.eq_2, orX.eq_1, orX.eq_2, iteX.eq_1, iteX.eq_2, retX.eq_1, retX.eq_2, callX.eq_1, biX.eq_1, isiX.eq_1, idxX.eq_1, slX.eq_1, tupX.eq_1, lstX.eq_1, iterX.eq_1, lcX.eq_1, consX.eq_1, consX.eq_2, consB.eq_1, oX.eq_1, thn.eq_1, thn.eq_2, thn.eq_3, asgX.eq_1, asgX.eq_2, unpX.eq_1, unpX.eq_2, parX.eq_1, augX.eq_1, retvX.eq_1, rtX.eq_1, rtX.eq_2, iffX.eq_1, iffX.eq_2, putX.eq_1, ownX.eq_1, appX.eq_1, appX.eq_2, popX.eq_1, mapX.eq_1, frz, frzAt, aft, asI, asB, asT, asTL.eq_1, asTL.eq_2, asL, fl_t, fl_l, fl_d, fl_i, fl_b, fl_n, fl_tp, fa_nil, fa_cons, fa_tp, fa_int, ks_l, ks_lz, ks_t, ks_i, ks_b, ks_n, ks_d, ks_tp, aftR, sc_l, sc_t, sc_i, sc_b, sc_n, outV, ty_ii, ty_bi, ty_ll, ty_tt, ty_bb, ty_ib, ty_lt, ty_li, ty_ls, ty_ss, ty_sl, ty_st, bindT, setMany, setL, intAt, catL, cm_lt, cm_le, cm_gt, cm_ge, cm_eqi, cm_nei, op_add, op_sub, op_mul, op_fdiv, op_mod, ix_t0, ix_t1, ix_t2, scal_tp, pow_ok, len_l, len_t, len_s, xb_abs, xb_max2, xb_min2, xb_list, xb_listT, xb_intb, xb_inti, xb_min, xb_max, it_seq, it_seqT, it_seqS, it_enum, it_zip, it_rev, z, ix_s, e]⟩
  · exact ⟨0, by simp [f__law_cell_at, init, ev_var, ev_brw, ev_cst, ev_bin, ev_neg, ev_not, ev_cmp, ev_and, ev_or, ev_ite, ev_call, ev_bi, ev_isi, ev_idx, ev_sl, ev_tup, ev_lst, ev_lc, evs_nil, evs_cons, evb_nil, evb_cons, evo_nil, evo_cons, ex_nil, ex_pass, ex_brk, ex_cons, ex_asg, ex_unp, ex_par, ex_aug, ex_ret, ex_retv, ex_iff, ex_for, ex_forc, forcX.eq_1, ex_whl, ex_app, ex_seti, ev_dnew, ev_dnewI, setkX.eq_1, setiX.eq_1, setiX.eq_2, ex_try, ex_hnd, phX.eq_1, try_exc, try_l, try_t, tryO_nil, tryO_one, hnd_eq, hndE.eq_1, hndE.eq_2, ex_pop, ex_clr, ex_revl, varX.eq_1, varX.eq_2, brwX.eq_1, binX.eq_1, negX.eq_1, notX.eq_1, cmpX.eq_1, boX.eq_1, andX.eq_1, andX.eq_2, orX.eq_1, orX.eq_2, iteX.eq_1, iteX.eq_2, retX.eq_1, retX.eq_2, callX.eq_1, biX.eq_1, isiX.eq_1, idxX.eq_1, slX.eq_1, tupX.eq_1, lstX.eq_1, iterX.eq_1, lcX.eq_1, consX.eq_1, consX.eq_2, consB.eq_1, oX.eq_1, thn.eq_1, thn.eq_2, thn.eq_3, asgX.eq_1, asgX.eq_2, unpX.eq_1, unpX.eq_2, parX.eq_1, augX.eq_1, retvX.eq_1, rtX.eq_1, rtX.eq_2, iffX.eq_1, iffX.eq_2, putX.eq_1, ownX.eq_1, appX.eq_1, appX.eq_2, popX.eq_1, mapX.eq_1, frz, frzAt, aft, asI, asB, asT, asTL.eq_1, asTL.eq_2, asL, fl_t, fl_l, fl_d, fl_i, fl_b, fl_n, fl_tp, fa_nil, fa_cons, fa_tp, fa_int, ks_l, ks_lz, ks_t, ks_i, ks_b, ks_n, ks_d, ks_tp, aftR, sc_l, sc_t, sc_i, sc_b, sc_n, outV, ty_ii, ty_bi, ty_ll, ty_tt, ty_bb, ty_ib, ty_lt, ty_li, ty_ls, ty_ss, ty_sl, ty_st, bindT, setMany, setL, intAt, catL, cm_lt, cm_le, cm_gt, cm_ge, cm_eqi, cm_nei, op_add, op_sub, op_mul, op_fdiv, op_mod, ix_t0, ix_t1, ix_t2, scal_tp, pow_ok, len_l, len_t, len_s, xb_abs, xb_max2, xb_min2, xb_list, xb_listT, xb_intb, xb_inti, xb_min, xb_max, it_seq, it_seqT, it_seqS, it_enum, it_zip, it_rev, z]⟩
/-- a cell: not below nought, not too great -/
def ce (c : Int) : Prop := 0 ≤ c ∧ bd 90 c
theorem e_cell_l {Φ : Ph} (h : Impl Φ "_law_cell_at" f__law_cell_at) {cs : List Int} (hc : ∀ c ∈ cs, ce c) (k : Nat) : ∃ v : Int, Φ "_law_cell_at" [.list (cs.map .int), .int k] = some (.int v, false) ∧ ce v := by
  rw [h, ev_f _ rfl]
  by_cases z : k < cs.length
  · have e : L2.atI (cs.map PyData.int) (k : Int) = some (.int cs[k]) := atI_nat (by simp [z])
    exact ⟨cs[k], by simp [f__law_cell_at, init, ev_var, ev_brw, ev_cst, ev_bin, ev_neg, ev_not, ev_cmp, ev_and, ev_or, ev_ite, ev_call, ev_bi, ev_isi, ev_idx, ev_sl, ev_tup, ev_lst, ev_lc, evs_nil, evs_cons, evb_nil, evb_cons, evo_nil, evo_cons, ex_nil, ex_pass, ex_brk, ex_cons, ex_asg, ex_unp, ex_par, ex_aug, ex_ret, ex_retv, ex_iff, ex_for, ex_forc, forcX.eq_1, ex_whl, ex_app, ex_seti, ev_dnew, ev_dnewI, setkX.eq_1, setiX.eq_1, setiX.eq_2, ex_try, ex_hnd, phX.eq_1, try_exc, try_l, try_t, tryO_nil, tryO_one, hnd_eq, hndE.eq_1, hndE.eq_2, ex_pop, ex_clr, ex_revl, varX.eq_1, varX.eq_2, brwX.eq_1, binX.eq_1, negX.eq_1, notX.eq_1, cmpX.eq_1, boX.eq_1, andX.eq_1, andX.eq_2, orX.eq_1, orX.eq_2, iteX.eq_1, iteX.eq_2, retX.eq_1, retX.eq_2, callX.eq_1, biX.eq_1, isiX.eq_1, idxX.eq_1, slX.eq_1, tupX.eq_1, lstX.eq_1, iterX.eq_1, lcX.eq_1, consX.eq_1, consX.eq_2, consB.eq_1, oX.eq_1, thn.eq_1, thn.eq_2, thn.eq_3, asgX.eq_1, asgX.eq_2, unpX.eq_1, unpX.eq_2, parX.eq_1, augX.eq_1, retvX.eq_1, rtX.eq_1, rtX.eq_2, iffX.eq_1, iffX.eq_2, putX.eq_1, ownX.eq_1, appX.eq_1, appX.eq_2, popX.eq_1, mapX.eq_1, frz, frzAt, aft, asI, asB, asT, asTL.eq_1, asTL.eq_2, asL, fl_t, fl_l, fl_d, fl_i, fl_b, fl_n, fl_tp, fa_nil, fa_cons, fa_tp, fa_int, ks_l, ks_lz, ks_t, ks_i, ks_b, ks_n, ks_d, ks_tp, aftR, sc_l, sc_t, sc_i, sc_b, sc_n, outV, ty_ii, ty_bi, ty_ll, ty_tt, ty_bb, ty_ib, ty_lt, ty_li, ty_ls, ty_ss, ty_sl, ty_st, bindT, setMany, setL, intAt, catL, cm_lt, cm_le, cm_gt, cm_ge, cm_eqi, cm_nei, op_add, op_sub, op_mul, op_fdiv, op_mod, ix_t0, ix_t1, ix_t2, scal_tp, pow_ok, len_l, len_t, len_s, xb_abs, xb_max2, xb_min2, xb_list, xb_listT, xb_intb, xb_inti, xb_min, xb_max, it_seq, it_seqT, it_seqS, it_enum, it_zip, it_rev, z, ix_l, e], hc _ (List.getElem_mem z)⟩
  · exact ⟨0, by simp [f__law_cell_at, init, ev_var, ev_brw, ev_cst, ev_bin, ev_neg, ev_not, ev_cmp, ev_and, ev_or, ev_ite, ev_call, ev_bi, ev_isi, ev_idx, ev_sl, ev_tup, ev_lst, ev_lc, evs_nil, evs_cons, evb_nil, evb_cons, evo_nil, evo_cons, ex_nil, ex_pass, ex_brk, ex_cons, ex_asg, ex_unp, ex_par, ex_aug, ex_ret, ex_retv, ex_iff, ex_for, ex_forc, forcX.eq_1, ex_whl, ex_app, ex_seti, ev_dnew, ev_dnewI, setkX.eq_1, setiX.eq_1, setiX.eq_2, ex_try, ex_hnd, phX.eq_1, try_exc, try_l, try_t, tryO_nil, tryO_one, hnd_eq, hndE.eq_1, hndE.eq_2, ex_pop, ex_clr, ex_revl, varX.eq_1, varX.eq_2, brwX.eq_1, binX.eq_1, negX.eq_1, notX.eq_1, cmpX.eq_1, boX.eq_1, andX.eq_1, andX.eq_2, orX.eq_1, orX.eq_2, iteX.eq_1, iteX.eq_2, retX.eq_1, retX.eq_2, callX.eq_1, biX.eq_1, isiX.eq_1, idxX.eq_1, slX.eq_1, tupX.eq_1, lstX.eq_1, iterX.eq_1, lcX.eq_1, consX.eq_1, consX.eq_2, consB.eq_1, oX.eq_1, thn.eq_1, thn.eq_2, thn.eq_3, asgX.eq_1, asgX.eq_2, unpX.eq_1, unpX.eq_2, parX.eq_1, augX.eq_1, retvX.eq_1, rtX.eq_1, rtX.eq_2, iffX.eq_1, iffX.eq_2, putX.eq_1, ownX.eq_1, appX.eq_1, appX.eq_2, popX.eq_1, mapX.eq_1, frz, frzAt, aft, asI, asB, asT, asTL.eq_1, asTL.eq_2, asL, fl_t, fl_l, fl_d, fl_i, fl_b, fl_n, fl_tp, fa_nil, fa_cons, fa_tp, fa_int, ks_l, ks_lz, ks_t, ks_i, ks_b, ks_n, ks_d, ks_tp, aftR, sc_l, sc_t, sc_i, sc_b, sc_n, outV, ty_ii, ty_bi, ty_ll, ty_tt, ty_bb, ty_ib, ty_lt, ty_li, ty_ls, ty_ss, ty_sl, ty_st, bindT, setMany, setL, intAt, catL, cm_lt, cm_le, cm_gt, cm_ge, cm_eqi, cm_nei, op_add, op_sub, op_mul, op_fdiv, op_mod, ix_t0, ix_t1, ix_t2, scal_tp, pow_ok, len_l, len_t, len_s, xb_abs, xb_max2, xb_min2, xb_list, xb_listT, xb_intb, xb_inti, xb_min, xb_max, it_seq, it_seqT, it_seqS, it_enum, it_zip, it_rev, z], Int.le_refl _, bd_of (by decide)⟩
theorem e_stirred {Φ : Ph} (h : Impl Φ "_law_stirred" f__law_stirred) (hc : Impl Φ "_law_cell_at" f__law_cell_at) (ns : List Int) (hn : ns.length ≤ 63) :
    Ex (Φ "_law_stirred" [scr (ns.map .int)]) fun o => ∃ cs : List Int, o = (.list (cs.map .int), true) ∧ cs.length ≤ 63 ∧ ∀ c ∈ cs, ce c := by
  generalize hR : (fun o : D × Bool => ∃ cs : List Int, o = (.list (cs.map .int), true) ∧ cs.length ≤ 63 ∧ ∀ c ∈ cs, ce c) = R
  obtain ⟨m, hm1, hm2⟩ : ∃ m : Nat, (if (7 : Int) > (ns.length : Int) then (7 : Int) else (ns.length : Int)) = (m : Int) ∧ m ≤ 63 := by
    split
    · exact ⟨7, rfl, by omega⟩
    · exact ⟨ns.length, rfl, hn⟩
  have r := it_rngN m (by omega)
  rw [h, ev_f _ rfl]
  simp [f__law_stirred, init, ev_var, ev_brw, ev_cst, ev_bin, ev_neg, ev_not, ev_cmp, ev_and, ev_or, ev_ite, ev_call, ev_bi, ev_isi, ev_idx, ev_sl, ev_tup, ev_lst, ev_lc, evs_nil, evs_cons, evb_nil, evb_cons, evo_nil, evo_cons, ex_nil, ex_pass, ex_brk, ex_cons, ex_asg, ex_unp, ex_par, ex_aug, ex_ret, ex_retv, ex_iff, ex_for, ex_forc, forcX.eq_1, ex_whl, ex_app, ex_seti, ev_dnew, ev_dnewI, setkX.eq_1, setiX.eq_1, setiX.eq_2, ex_try, ex_hnd, phX.eq_1, try_exc, try_l, try_t, tryO_nil, tryO_one, hnd_eq, hndE.eq_1, hndE.eq_2, ex_pop, ex_clr, ex_revl, varX.eq_1, varX.eq_2, brwX.eq_1, binX.eq_1, negX.eq_1, notX.eq_1, cmpX.eq_1, boX.eq_1, andX.eq_1, andX.eq_2, orX.eq_1, orX.eq_2, iteX.eq_1, iteX.eq_2, retX.eq_1, retX.eq_2, callX.eq_1, biX.eq_1, isiX.eq_1, idxX.eq_1, slX.eq_1, tupX.eq_1, lstX.eq_1, iterX.eq_1, lcX.eq_1, consX.eq_1, consX.eq_2, consB.eq_1, oX.eq_1, thn.eq_1, thn.eq_2, thn.eq_3, asgX.eq_1, asgX.eq_2, unpX.eq_1, unpX.eq_2, parX.eq_1, augX.eq_1, retvX.eq_1, rtX.eq_1, rtX.eq_2, iffX.eq_1, iffX.eq_2, putX.eq_1, ownX.eq_1, appX.eq_1, appX.eq_2, popX.eq_1, mapX.eq_1, frz, frzAt, aft, asI, asB, asT, asTL.eq_1, asTL.eq_2, asL, fl_t, fl_l, fl_d, fl_i, fl_b, fl_n, fl_tp, fa_nil, fa_cons, fa_tp, fa_int, ks_l, ks_lz, ks_t, ks_i, ks_b, ks_n, ks_d, ks_tp, aftR, sc_l, sc_t, sc_i, sc_b, sc_n, outV, ty_ii, ty_bi, ty_ll, ty_tt, ty_bb, ty_ib, ty_lt, ty_li, ty_ls, ty_ss, ty_sl, ty_st, bindT, setMany, setL, intAt, catL, cm_lt, cm_le, cm_gt, cm_ge, cm_eqi, cm_nei, op_add, op_sub, op_mul, op_fdiv, op_mod, ix_t0, ix_t1, ix_t2, scal_tp, pow_ok, len_l, len_t, len_s, xb_abs, xb_max2, xb_min2, xb_list, xb_listT, xb_intb, xb_inti, xb_min, xb_max, it_seq, it_seqT, it_seqS, it_enum, it_zip, it_rev]
  rw [show (if (ns.length : Int) < 7 then (7 : Int) else (ns.length : Int)) = (m : Int) from hm1, r]
  refine fx_for (fun k ρ => ∃ (cs : List Int) (x3 x4 : Slot), ρ = [some (scr (ns.map .int), false), some (.int 618970019642690137449562111, false), some (.list (cs.map .int), true), x3, x4] ∧ cs.length = k ∧ ∀ c ∈ cs, ce c)
    ⟨[], none, none, rfl, rfl, by simp⟩ ?_ ?_
  · rintro i d ρ hd ⟨cs, x3, x4, rfl, hl, hs⟩
    obtain ⟨rfl, hi⟩ := range_at hd
    obtain ⟨c, ec⟩ := e_cell_s hc ns i
    rw [Int.zero_add]
    have ll : cs.length < lim := by unfold lim; omega
    have bp : ∀ x : Int, bd 90 (x.fmod 618970019642690137449562111) := fun x => bd_mono (bd_fmod (bd_lit _) (by decide)) (by decide +kernel)
    have bi : bd 10 (i : Int) := bd_of (by omega)
    have m1 : ∀ x : Int, mulOk (x.fmod 618970019642690137449562111) 48271 = true := fun x => mulOk_bd (bp x) (bd_lit _) (by decide +kernel)
    have m2 : mulOk (i : Int) (i : Int) = true := mulOk_bd bi bi (by decide)
    have m3 : mulOk ((i : Int) * (i : Int)) 7919 = true := mulOk_bd (bd_mul bi bi) (bd_lit _) (by decide +kernel)
    have m4 : ∀ x : Int, mulOk (x.fmod 618970019642690137449562111) 413338662677311947023157 = true := fun x => mulOk_bd (bp x) (bd_lit _) (by decide +kernel)
    have m5 : ∀ x : Int, mulOk (x.fmod 618970019642690137449562111) 282475249 = true := fun x => mulOk_bd (bp x) (bd_lit _) (by decide +kernel)
    refine ⟨_, rfl, ?_⟩
    have key : ∀ v : Int, ce v → ∀ x3 x4 : Slot, ∃ (cs' : List Int) (y3 y4 : Slot), [some (scr (ns.map .int), false), some (PyData.int 618970019642690137449562111, false), some (.list (cs.map .int ++ [.int v]), true), x3, x4] = [some (scr (ns.map .int), false), some (PyData.int 618970019642690137449562111, false), some (.list (cs'.map .int), true), y3, y4] ∧ cs'.length = i + 1 ∧ ∀ c ∈ cs', ce c := fun v hv x3 x4 =>
      ⟨cs ++ [v], x3, x4, by simp, by simp [hl], fun c hc => by
        rcases List.mem_append.mp hc with hc | hc
        · exact hs c hc
        · rw [List.mem_singleton.mp hc]; exact hv⟩
    generalize hJ : (fun ρ : Rho => ∃ (cs : List Int) (x3 x4 : Slot), ρ = [some (scr (ns.map .int), false), some (.int 618970019642690137449562111, false), some (.list (cs.map .int), true), x3, x4] ∧ cs.length = i + 1 ∧ ∀ c ∈ cs, ce c) = J
    simp [init, ev_var, ev_brw, ev_cst, ev_bin, ev_neg, ev_not, ev_cmp, ev_and, ev_or, ev_ite, ev_call, ev_bi, ev_isi, ev_idx, ev_sl, ev_tup, ev_lst, ev_lc, evs_nil, evs_cons, evb_nil, evb_cons, evo_nil, evo_cons, ex_nil, ex_pass, ex_brk, ex_cons, ex_asg, ex_unp, ex_par, ex_aug, ex_ret, ex_retv, ex_iff, ex_for, ex_forc, forcX.eq_1, ex_whl, ex_app, ex_seti, ev_dnew, ev_dnewI, setkX.eq_1, setiX.eq_1, setiX.eq_2, ex_try, ex_hnd, phX.eq_1, try_exc, try_l, try_t, tryO_nil, tryO_one, hnd_eq, hndE.eq_1, hndE.eq_2, ex_pop, ex_clr, ex_revl, varX.eq_1, varX.eq_2, brwX.eq_1, binX.eq_1, negX.eq_1, notX.eq_1, cmpX.eq_1, boX.eq_1, andX.eq_1, andX.eq_2, orX.eq_1, orX.eq_2, iteX.eq_1, iteX.eq_2, retX.eq_1, retX.eq_2, callX.eq_1, biX.eq_1, isiX.eq_1, idxX.eq_1, slX.eq_1, tupX.eq_1, lstX.eq_1, iterX.eq_1, lcX.eq_1, consX.eq_1, consX.eq_2, consB.eq_1, oX.eq_1, thn.eq_1, thn.eq_2, thn.eq_3, asgX.eq_1, asgX.eq_2, unpX.eq_1, unpX.eq_2, parX.eq_1, augX.eq_1, retvX.eq_1, rtX.eq_1, rtX.eq_2, iffX.eq_1, iffX.eq_2, putX.eq_1, ownX.eq_1, appX.eq_1, appX.eq_2, popX.eq_1, mapX.eq_1, frz, frzAt, aft, asI, asB, asT, asTL.eq_1, asTL.eq_2, asL, fl_t, fl_l, fl_d, fl_i, fl_b, fl_n, fl_tp, fa_nil, fa_cons, fa_tp, fa_int, ks_l, ks_lz, ks_t, ks_i, ks_b, ks_n, ks_d, ks_tp, aftR, sc_l, sc_t, sc_i, sc_b, sc_n, outV, ty_ii, ty_bi, ty_ll, ty_tt, ty_bb, ty_ib, ty_lt, ty_li, ty_ls, ty_ss, ty_sl, ty_st, bindT, setMany, setL, intAt, catL, cm_lt, cm_le, cm_gt, cm_ge, cm_eqi, cm_nei, op_add, op_sub, op_mul, op_fdiv, op_mod, ix_t0, ix_t1, ix_t2, scal_tp, pow_ok, len_l, len_t, len_s, xb_abs, xb_max2, xb_min2, xb_list, xb_listT, xb_intb, xb_inti, xb_min, xb_max, it_seq, it_seqT, it_seqS, it_enum, it_zip, it_rev, ec, m1, m2, m3, m4, m5, ll]
    refine Nx.mk ?_
    rw [← hJ]
    exact key _ ⟨Int.fmod_nonneg_of_pos _ (by decide), bp _⟩ _ _
  · rintro ρ' ⟨cs, x3, x4, rfl, hl, hs⟩
    simp [init, ev_var, ev_brw, ev_cst, ev_bin, ev_neg, ev_not, ev_cmp, ev_and, ev_or, ev_ite, ev_call, ev_bi, ev_isi, ev_idx, ev_sl, ev_tup, ev_lst, ev_lc, evs_nil, evs_cons, evb_nil, evb_cons, evo_nil, evo_cons, ex_nil, ex_pass, ex_brk, ex_cons, ex_asg, ex_unp, ex_par, ex_aug, ex_ret, ex_retv, ex_iff, ex_for, ex_forc, forcX.eq_1, ex_whl, ex_app, ex_seti, ev_dnew, ev_dnewI, setkX.eq_1, setiX.eq_1, setiX.eq_2, ex_try, ex_hnd, phX.eq_1, try_exc, try_l, try_t, tryO_nil, tryO_one, hnd_eq, hndE.eq_1, hndE.eq_2, ex_pop, ex_clr, ex_revl, varX.eq_1, varX.eq_2, brwX.eq_1, binX.eq_1, negX.eq_1, notX.eq_1, cmpX.eq_1, boX.eq_1, andX.eq_1, andX.eq_2, orX.eq_1, orX.eq_2, iteX.eq_1, iteX.eq_2, retX.eq_1, retX.eq_2, callX.eq_1, biX.eq_1, isiX.eq_1, idxX.eq_1, slX.eq_1, tupX.eq_1, lstX.eq_1, iterX.eq_1, lcX.eq_1, consX.eq_1, consX.eq_2, consB.eq_1, oX.eq_1, thn.eq_1, thn.eq_2, thn.eq_3, asgX.eq_1, asgX.eq_2, unpX.eq_1, unpX.eq_2, parX.eq_1, augX.eq_1, retvX.eq_1, rtX.eq_1, rtX.eq_2, iffX.eq_1, iffX.eq_2, putX.eq_1, ownX.eq_1, appX.eq_1, appX.eq_2, popX.eq_1, mapX.eq_1, frz, frzAt, aft, asI, asB, asT, asTL.eq_1, asTL.eq_2, asL, fl_t, fl_l, fl_d, fl_i, fl_b, fl_n, fl_tp, fa_nil, fa_cons, fa_tp, fa_int, ks_l, ks_lz, ks_t, ks_i, ks_b, ks_n, ks_d, ks_tp, aftR, sc_l, sc_t, sc_i, sc_b, sc_n, outV, ty_ii, ty_bi, ty_ll, ty_tt, ty_bb, ty_ib, ty_lt, ty_li, ty_ls, ty_ss, ty_sl, ty_st, bindT, setMany, setL, intAt, catL, cm_lt, cm_le, cm_gt, cm_ge, cm_eqi, cm_nei, op_add, op_sub, op_mul, op_fdiv, op_mod, ix_t0, ix_t1, ix_t2, scal_tp, pow_ok, len_l, len_t, len_s, xb_abs, xb_max2, xb_min2, xb_list, xb_listT, xb_intb, xb_inti, xb_min, xb_max, it_seq, it_seqT, it_seqS, it_enum, it_zip, it_rev]
    refine Ex.mk ?_
    rw [← hR]
    have : cs.length = m := by rw [hl]; simp [rangeD]
    exact ⟨cs, rfl, by omega, hs⟩
theorem e_height {Φ : Ph} (h : Impl Φ "_law_height_by" f__law_height_by) (hw : Impl Φ "_law_low" f__law_low) {kind i j rest : Int} (hk : ce kind) (hi : bd 5 i) (hj : bd 5 j) (hr : ce rest) : ∃ p : P, Φ "_law_height_by" [.int kind, .int i, .int j, .int rest] = some (tp p, false) ∧ fr 80 p := by
  rw [h, ev_f _ rfl]
  have nn : ∀ x : Int, ∀ m : Int, 0 < m → 0 ≤ x.fmod m := fun x m hm => Int.fmod_nonneg_of_pos x hm
  by_cases k1 : kind.fmod 4 = 1
  · have m1 := mulOk_bd hi hi (by decide)
    have m2 := mulOk_bd hi hj (by decide)
    have m3 := mulOk_bd hj hj (by decide)
    have b5 : bd 4 ((kind.fdiv 36).fmod 5) := bd_mono (bd_fmod (bd_lit 5) (by decide)) (by decide +kernel)
    have m4 : mulOk (i * i + i * j + j * j) (1 + (kind.fdiv 36).fmod 5) = true := mulOk_bd (bd_add (bd_add (bd_mul hi hi) (bd_mul hi hj)) (bd_mul hj hj)) (bd_add (bd_lit 1) b5) (by decide +kernel)
    have d1 : divOk 36 = true := by decide
    refine ⟨(rest.fmod 3 - (i * i + i * j + j * j) * (1 + (kind.fdiv 36).fmod 5), 1), ?_, ⟨bd_mono (bd_sub (bd_fmod (bd_lit 3) (by decide)) (bd_mul (bd_add (bd_add (bd_mul hi hi) (bd_mul hi hj)) (bd_mul hj hj)) (bd_add (bd_lit 1) b5))) (by decide +kernel), bd_of (show (1 : Int).natAbs < 2 ^ 80 by decide), (show (0 : Int) < 1 by decide), Nat.gcd_one_right _⟩⟩
    simp [f__law_height_by, init, ev_var, ev_brw, ev_cst, ev_bin, ev_neg, ev_not, ev_cmp, ev_and, ev_or, ev_ite, ev_call, ev_bi, ev_isi, ev_idx, ev_sl, ev_tup, ev_lst, ev_lc, evs_nil, evs_cons, evb_nil, evb_cons, evo_nil, evo_cons, ex_nil, ex_pass, ex_brk, ex_cons, ex_asg, ex_unp, ex_par, ex_aug, ex_ret, ex_retv, ex_iff, ex_for, ex_forc, forcX.eq_1, ex_whl, ex_app, ex_seti, ev_dnew, ev_dnewI, setkX.eq_1, setiX.eq_1, setiX.eq_2, ex_try, ex_hnd, phX.eq_1, try_exc, try_l, try_t, tryO_nil, tryO_one, hnd_eq, hndE.eq_1, hndE.eq_2, ex_pop, ex_clr, ex_revl, varX.eq_1, varX.eq_2, brwX.eq_1, binX.eq_1, negX.eq_1, notX.eq_1, cmpX.eq_1, boX.eq_1, andX.eq_1, andX.eq_2, orX.eq_1, orX.eq_2, iteX.eq_1, iteX.eq_2, retX.eq_1, retX.eq_2, callX.eq_1, biX.eq_1, isiX.eq_1, idxX.eq_1, slX.eq_1, tupX.eq_1, lstX.eq_1, iterX.eq_1, lcX.eq_1, consX.eq_1, consX.eq_2, consB.eq_1, oX.eq_1, thn.eq_1, thn.eq_2, thn.eq_3, asgX.eq_1, asgX.eq_2, unpX.eq_1, unpX.eq_2, parX.eq_1, augX.eq_1, retvX.eq_1, rtX.eq_1, rtX.eq_2, iffX.eq_1, iffX.eq_2, putX.eq_1, ownX.eq_1, appX.eq_1, appX.eq_2, popX.eq_1, mapX.eq_1, frz, frzAt, aft, asI, asB, asT, asTL.eq_1, asTL.eq_2, asL, fl_t, fl_l, fl_d, fl_i, fl_b, fl_n, fl_tp, fa_nil, fa_cons, fa_tp, fa_int, ks_l, ks_lz, ks_t, ks_i, ks_b, ks_n, ks_d, ks_tp, aftR, sc_l, sc_t, sc_i, sc_b, sc_n, outV, ty_ii, ty_bi, ty_ll, ty_tt, ty_bb, ty_ib, ty_lt, ty_li, ty_ls, ty_ss, ty_sl, ty_st, bindT, setMany, setL, intAt, catL, cm_lt, cm_le, cm_gt, cm_ge, cm_eqi, cm_nei, op_add, op_sub, op_mul, op_fdiv, op_mod, ix_t0, ix_t1, ix_t2, scal_tp, pow_ok, len_l, len_t, len_s, xb_abs, xb_max2, xb_min2, xb_list, xb_listT, xb_intb, xb_inti, xb_min, xb_max, it_seq, it_seqT, it_seqS, it_enum, it_zip, it_rev, k1, m1, m2, m3, m4, d1, tp]
  · by_cases k2 : kind.fmod 4 = 3
    · refine ⟨(rest.fmod 3, 1), ?_, ⟨bd_mono (bd_fmod (bd_lit 3) (by decide)) (by decide +kernel), bd_of (show (1 : Int).natAbs < 2 ^ 80 by decide), (show (0 : Int) < 1 by decide), Nat.gcd_one_right _⟩⟩
      simp [f__law_height_by, init, ev_var, ev_brw, ev_cst, ev_bin, ev_neg, ev_not, ev_cmp, ev_and, ev_or, ev_ite, ev_call, ev_bi, ev_isi, ev_idx, ev_sl, ev_tup, ev_lst, ev_lc, evs_nil, evs_cons, evb_nil, evb_cons, evo_nil, evo_cons, ex_nil, ex_pass, ex_brk, ex_cons, ex_asg, ex_unp, ex_par, ex_aug, ex_ret, ex_retv, ex_iff, ex_for, ex_forc, forcX.eq_1, ex_whl, ex_app, ex_seti, ev_dnew, ev_dnewI, setkX.eq_1, setiX.eq_1, setiX.eq_2, ex_try, ex_hnd, phX.eq_1, try_exc, try_l, try_t, tryO_nil, tryO_one, hnd_eq, hndE.eq_1, hndE.eq_2, ex_pop, ex_clr, ex_revl, varX.eq_1, varX.eq_2, brwX.eq_1, binX.eq_1, negX.eq_1, notX.eq_1, cmpX.eq_1, boX.eq_1, andX.eq_1, andX.eq_2, orX.eq_1, orX.eq_2, iteX.eq_1, iteX.eq_2, retX.eq_1, retX.eq_2, callX.eq_1, biX.eq_1, isiX.eq_1, idxX.eq_1, slX.eq_1, tupX.eq_1, lstX.eq_1, iterX.eq_1, lcX.eq_1, consX.eq_1, consX.eq_2, consB.eq_1, oX.eq_1, thn.eq_1, thn.eq_2, thn.eq_3, asgX.eq_1, asgX.eq_2, unpX.eq_1, unpX.eq_2, parX.eq_1, augX.eq_1, retvX.eq_1, rtX.eq_1, rtX.eq_2, iffX.eq_1, iffX.eq_2, putX.eq_1, ownX.eq_1, appX.eq_1, appX.eq_2, popX.eq_1, mapX.eq_1, frz, frzAt, aft, asI, asB, asT, asTL.eq_1, asTL.eq_2, asL, fl_t, fl_l, fl_d, fl_i, fl_b, fl_n, fl_tp, fa_nil, fa_cons, fa_tp, fa_int, ks_l, ks_lz, ks_t, ks_i, ks_b, ks_n, ks_d, ks_tp, aftR, sc_l, sc_t, sc_i, sc_b, sc_n, outV, ty_ii, ty_bi, ty_ll, ty_tt, ty_bb, ty_ib, ty_lt, ty_li, ty_ls, ty_ss, ty_sl, ty_st, bindT, setMany, setL, intAt, catL, cm_lt, cm_le, cm_gt, cm_ge, cm_eqi, cm_nei, op_add, op_sub, op_mul, op_fdiv, op_mod, ix_t0, ix_t1, ix_t2, scal_tp, pow_ok, len_l, len_t, len_s, xb_abs, xb_max2, xb_min2, xb_list, xb_listT, xb_intb, xb_inti, xb_min, xb_max, it_seq, it_seqT, it_seqS, it_enum, it_zip, it_rev, k1, k2, tp]
    · have d1 : divOk 36 = true := by decide
      have d2 : divOk 11 = true := by decide
      have d3 : divOk 13 = true := by decide
      by_cases k3 : (kind.fdiv 36).fmod 2 = 1
      · have p1 : powOk 10 20 = true := by decide
        have m1 : mulOk 2 100000000000000000000 = true := by decide +kernel
        have b0 := nn (rest.fdiv 11) 12 (by decide)
        obtain ⟨p, e, f, _⟩ := e_low hw (a := rest.fmod 200000000000000000001 - 100000000000000000000) (b := 1 + (rest.fdiv 11).fmod 12) (n := 80)
          (bd_mono (bd_sub (bd_fmod (bd_lit _) (by decide)) (bd_lit _)) (by decide +kernel)) (bd_mono (bd_add (bd_lit 1) (bd_fmod (bd_lit 12) (by decide))) (by decide +kernel)) (by decide) (by omega)
        exact ⟨p, by simp [f__law_height_by, init, ev_var, ev_brw, ev_cst, ev_bin, ev_neg, ev_not, ev_cmp, ev_and, ev_or, ev_ite, ev_call, ev_bi, ev_isi, ev_idx, ev_sl, ev_tup, ev_lst, ev_lc, evs_nil, evs_cons, evb_nil, evb_cons, evo_nil, evo_cons, ex_nil, ex_pass, ex_brk, ex_cons, ex_asg, ex_unp, ex_par, ex_aug, ex_ret, ex_retv, ex_iff, ex_for, ex_forc, forcX.eq_1, ex_whl, ex_app, ex_seti, ev_dnew, ev_dnewI, setkX.eq_1, setiX.eq_1, setiX.eq_2, ex_try, ex_hnd, phX.eq_1, try_exc, try_l, try_t, tryO_nil, tryO_one, hnd_eq, hndE.eq_1, hndE.eq_2, ex_pop, ex_clr, ex_revl, varX.eq_1, varX.eq_2, brwX.eq_1, binX.eq_1, negX.eq_1, notX.eq_1, cmpX.eq_1, boX.eq_1, andX.eq_1, andX.eq_2, orX.eq_1, orX.eq_2, iteX.eq_1, iteX.eq_2, retX.eq_1, retX.eq_2, callX.eq_1, biX.eq_1, isiX.eq_1, idxX.eq_1, slX.eq_1, tupX.eq_1, lstX.eq_1, iterX.eq_1, lcX.eq_1, consX.eq_1, consX.eq_2, consB.eq_1, oX.eq_1, thn.eq_1, thn.eq_2, thn.eq_3, asgX.eq_1, asgX.eq_2, unpX.eq_1, unpX.eq_2, parX.eq_1, augX.eq_1, retvX.eq_1, rtX.eq_1, rtX.eq_2, iffX.eq_1, iffX.eq_2, putX.eq_1, ownX.eq_1, appX.eq_1, appX.eq_2, popX.eq_1, mapX.eq_1, frz, frzAt, aft, asI, asB, asT, asTL.eq_1, asTL.eq_2, asL, fl_t, fl_l, fl_d, fl_i, fl_b, fl_n, fl_tp, fa_nil, fa_cons, fa_tp, fa_int, ks_l, ks_lz, ks_t, ks_i, ks_b, ks_n, ks_d, ks_tp, aftR, sc_l, sc_t, sc_i, sc_b, sc_n, outV, ty_ii, ty_bi, ty_ll, ty_tt, ty_bb, ty_ib, ty_lt, ty_li, ty_ls, ty_ss, ty_sl, ty_st, bindT, setMany, setL, intAt, catL, cm_lt, cm_le, cm_gt, cm_ge, cm_eqi, cm_nei, op_add, op_sub, op_mul, op_fdiv, op_mod, ix_t0, ix_t1, ix_t2, scal_tp, pow_ok, len_l, len_t, len_s, xb_abs, xb_max2, xb_min2, xb_list, xb_listT, xb_intb, xb_inti, xb_min, xb_max, it_seq, it_seqT, it_seqS, it_enum, it_zip, it_rev, k1, k2, k3, p1, m1, d1, d2, e], f⟩
      · have b0 := nn (rest.fdiv 13) 4 (by decide)
        obtain ⟨p, e, f, _⟩ := e_low hw (a := rest.fmod 13 - 6) (b := 1 + (rest.fdiv 13).fmod 4) (n := 80)
          (bd_mono (bd_sub (bd_fmod (bd_lit _) (by decide)) (bd_lit _)) (by decide +kernel)) (bd_mono (bd_add (bd_lit 1) (bd_fmod (bd_lit 4) (by decide))) (by decide +kernel)) (by decide) (by omega)
        exact ⟨p, by simp [f__law_height_by, init, ev_var, ev_brw, ev_cst, ev_bin, ev_neg, ev_not, ev_cmp, ev_and, ev_or, ev_ite, ev_call, ev_bi, ev_isi, ev_idx, ev_sl, ev_tup, ev_lst, ev_lc, evs_nil, evs_cons, evb_nil, evb_cons, evo_nil, evo_cons, ex_nil, ex_pass, ex_brk, ex_cons, ex_asg, ex_unp, ex_par, ex_aug, ex_ret, ex_retv, ex_iff, ex_for, ex_forc, forcX.eq_1, ex_whl, ex_app, ex_seti, ev_dnew, ev_dnewI, setkX.eq_1, setiX.eq_1, setiX.eq_2, ex_try, ex_hnd, phX.eq_1, try_exc, try_l, try_t, tryO_nil, tryO_one, hnd_eq, hndE.eq_1, hndE.eq_2, ex_pop, ex_clr, ex_revl, varX.eq_1, varX.eq_2, brwX.eq_1, binX.eq_1, negX.eq_1, notX.eq_1, cmpX.eq_1, boX.eq_1, andX.eq_1, andX.eq_2, orX.eq_1, orX.eq_2, iteX.eq_1, iteX.eq_2, retX.eq_1, retX.eq_2, callX.eq_1, biX.eq_1, isiX.eq_1, idxX.eq_1, slX.eq_1, tupX.eq_1, lstX.eq_1, iterX.eq_1, lcX.eq_1, consX.eq_1, consX.eq_2, consB.eq_1, oX.eq_1, thn.eq_1, thn.eq_2, thn.eq_3, asgX.eq_1, asgX.eq_2, unpX.eq_1, unpX.eq_2, parX.eq_1, augX.eq_1, retvX.eq_1, rtX.eq_1, rtX.eq_2, iffX.eq_1, iffX.eq_2, putX.eq_1, ownX.eq_1, appX.eq_1, appX.eq_2, popX.eq_1, mapX.eq_1, frz, frzAt, aft, asI, asB, asT, asTL.eq_1, asTL.eq_2, asL, fl_t, fl_l, fl_d, fl_i, fl_b, fl_n, fl_tp, fa_nil, fa_cons, fa_tp, fa_int, ks_l, ks_lz, ks_t, ks_i, ks_b, ks_n, ks_d, ks_tp, aftR, sc_l, sc_t, sc_i, sc_b, sc_n, outV, ty_ii, ty_bi, ty_ll, ty_tt, ty_bb, ty_ib, ty_lt, ty_li, ty_ls, ty_ss, ty_sl, ty_st, bindT, setMany, setL, intAt, catL, cm_lt, cm_le, cm_gt, cm_ge, cm_eqi, cm_nei, op_add, op_sub, op_mul, op_fdiv, op_mod, ix_t0, ix_t1, ix_t2, scal_tp, pow_ok, len_l, len_t, len_s, xb_abs, xb_max2, xb_min2, xb_list, xb_listT, xb_intb, xb_inti, xb_min, xb_max, it_seq, it_seqT, it_seqS, it_enum, it_zip, it_rev, k1, k2, k3, d1, d3, e], f⟩
/-- a plane: its slope, its height -/
structure Pl where
  i : Int
  j : Int
  h : P
def pl (p : Pl) : D := .tuple [.int p.i, .int p.j, tp p.h]
structure gp (p : Pl) : Prop where
  i : bd 5 p.i
  j : bd 5 p.j
  h : fr 80 p.h
/-- the dict's rows -/
def Di (l : List (List Int × D)) : Prop := ∀ q ∈ l, ∃ (i j : Int) (f : P), q.1 = [i, j] ∧ bd 5 i ∧ bd 5 j ∧ q.2 = tp f ∧ fr 80 f
theorem Di.put {l : List (List Int × D)} (h : Di l) {i j : Int} {f : P} (hi : bd 5 i) (hj : bd 5 j) (hf : fr 80 f) : Di (dput l [i, j] (tp f)) := fun q hq => by
  rcases dput_mem hq with hq | rfl
  · exact h q hq
  · exact ⟨i, j, f, rfl, hi, hj, rfl, hf⟩
theorem pick {α β : Type} {R : α → β → Prop} : ∀ {K : List α}, (∀ k ∈ K, ∃ p, R k p) → ∃ ps : List β, ps.length = K.length ∧ ∀ (i : Nat) (k : α), K[i]? = some k → ∃ p, ps[i]? = some p ∧ R k p
  | [], _ => ⟨[], rfl, fun i k h => by simp at h⟩
  | a :: K, h => by
    obtain ⟨p, hp⟩ := h a List.mem_cons_self
    obtain ⟨ps, e, g⟩ := pick (K := K) fun k hk => h k (List.mem_cons_of_mem _ hk)
    refine ⟨p :: ps, by simp [e], fun i k hk => ?_⟩
    cases i with
    | zero => simp at hk; subst hk; exact ⟨p, rfl, hp⟩
    | succ i => exact g i k (by simpa using hk)
theorem wide_bd {x w : Int} (h1 : 0 < w) (h2 : w ≤ 9) : bd 5 (x.fmod w) := bd_of (by
  have := Int.fmod_nonneg_of_pos x h1
  have := Int.fmod_lt_of_pos x h1
  show _ < 32
  omega)
theorem ce_fdiv {c w : Int} (h : ce c) (hw : 0 < w) : ce (c.fdiv w) := by
  refine ⟨Int.fdiv_nonneg h.1 (Int.le_of_lt hw), bd_fdiv h.2 hw⟩
theorem e_roof {Φ : Ph} (h : Impl Φ "_law_roof_by" f__law_roof_by) (hh : Impl Φ "_law_height_by" f__law_height_by) (hw : Impl Φ "_law_low" f__law_low) {kind wide : Int} {most : Int} {cs : List Int} (hk : ce kind) (hc : ∀ c ∈ cs, ce c) (hl : cs.length ≤ 60) (w1 : 0 < wide) (w2 : wide ≤ 9) :
    Ex (Φ "_law_roof_by" [.int kind, .list (cs.map .int), .int most, .int wide]) fun o => ∃ ps : List Pl, o = (.list (ps.map pl), true) ∧ ps ≠ [] ∧ ps.length ≤ 61 ∧ ∀ p ∈ ps, gp p := by
  generalize hR : (fun o : D × Bool => ∃ ps : List Pl, o = (.list (ps.map pl), true) ∧ ps ≠ [] ∧ ps.length ≤ 61 ∧ ∀ p ∈ ps, gp p) = R
  have wn : wide ≠ 0 := by omega
  have wb : bd 5 wide := bd_of (by show _ < 32; omega)
  have dw : divOk wide = true := divOk_bd wb wn (by decide)
  have mww : mulOk wide wide = true := mulOk_bd wb wb (by decide)
  have ww : 0 < wide * wide := Int.mul_pos w1 w1
  have dww : divOk (wide * wide) = true := divOk_bd (bd_mul wb wb) (by omega) (by decide)
  have d4 : divOk 4 = true := by decide
  rw [h, ev_f _ rfl]
  simp [f__law_roof_by, init, ev_var, ev_brw, ev_cst, ev_bin, ev_neg, ev_not, ev_cmp, ev_and, ev_or, ev_ite, ev_call, ev_bi, ev_isi, ev_idx, ev_sl, ev_tup, ev_lst, ev_lc, evs_nil, evs_cons, evb_nil, evb_cons, evo_nil, evo_cons, ex_nil, ex_pass, ex_brk, ex_cons, ex_asg, ex_unp, ex_par, ex_aug, ex_ret, ex_retv, ex_iff, ex_for, ex_forc, forcX.eq_1, ex_whl, ex_app, ex_seti, ev_dnew, ev_dnewI, setkX.eq_1, setiX.eq_1, setiX.eq_2, ex_try, ex_hnd, phX.eq_1, try_exc, try_l, try_t, tryO_nil, tryO_one, hnd_eq, hndE.eq_1, hndE.eq_2, ex_pop, ex_clr, ex_revl, varX.eq_1, varX.eq_2, brwX.eq_1, binX.eq_1, negX.eq_1, notX.eq_1, cmpX.eq_1, boX.eq_1, andX.eq_1, andX.eq_2, orX.eq_1, orX.eq_2, iteX.eq_1, iteX.eq_2, retX.eq_1, retX.eq_2, callX.eq_1, biX.eq_1, isiX.eq_1, idxX.eq_1, slX.eq_1, tupX.eq_1, lstX.eq_1, iterX.eq_1, lcX.eq_1, consX.eq_1, consX.eq_2, consB.eq_1, oX.eq_1, thn.eq_1, thn.eq_2, thn.eq_3, asgX.eq_1, asgX.eq_2, unpX.eq_1, unpX.eq_2, parX.eq_1, augX.eq_1, retvX.eq_1, rtX.eq_1, rtX.eq_2, iffX.eq_1, iffX.eq_2, putX.eq_1, ownX.eq_1, appX.eq_1, appX.eq_2, popX.eq_1, mapX.eq_1, frz, frzAt, aft, asI, asB, asT, asTL.eq_1, asTL.eq_2, asL, fl_t, fl_l, fl_d, fl_i, fl_b, fl_n, fl_tp, fa_nil, fa_cons, fa_tp, fa_int, ks_l, ks_lz, ks_t, ks_i, ks_b, ks_n, ks_d, ks_tp, aftR, sc_l, sc_t, sc_i, sc_b, sc_n, outV, ty_ii, ty_bi, ty_ll, ty_tt, ty_bb, ty_ib, ty_lt, ty_li, ty_ls, ty_ss, ty_sl, ty_st, bindT, setMany, setL, intAt, catL, cm_lt, cm_le, cm_gt, cm_ge, cm_eqi, cm_nei, op_add, op_sub, op_mul, op_fdiv, op_mod, ix_t0, ix_t1, ix_t2, scal_tp, pow_ok, len_l, len_t, len_s, xb_abs, xb_max2, xb_min2, xb_list, xb_listT, xb_intb, xb_inti, xb_min, xb_max, it_seq, it_seqT, it_seqS, it_enum, it_zip, it_rev]
  refine fx_for (fun k ρ => ∃ (l : List (List Int × D)) (x5 x6 x7 x8 x9 : Slot), ρ = [some (.int kind, false), some (.list (cs.map .int), false), some (.int most, false), some (.int wide, false), some (.dict (dkL l), true), x5, x6, x7, x8, x9, none] ∧ l.length ≤ k ∧ Di l) ?_ ?_ ?_
  · exact ⟨[], none, none, none, none, none, rfl, Nat.le_refl _, fun q hq => by cases hq⟩
  · rintro i d ρ hd ⟨l, x5, x6, x7, x8, x9, rfl, hll, hD⟩
    obtain ⟨c, hcm, rfl⟩ := map_at hd
    have hi : i < cs.length := (List.getElem?_eq_some_iff.mp hcm).1
    have cc := hc c (List.mem_of_getElem? hcm)
    have bi : bd 5 (c.fmod wide) := wide_bd w1 w2
    have lim1 : l.length < lim := by unfold lim; omega
    refine ⟨_, rfl, ?_⟩
    generalize hJ : (fun ρ : Rho => ∃ (l : List (List Int × D)) (x5 x6 x7 x8 x9 : Slot), ρ = [some (.int kind, false), some (.list (cs.map .int), false), some (.int most, false), some (.int wide, false), some (.dict (dkL l), true), x5, x6, x7, x8, x9, none] ∧ l.length ≤ i + 1 ∧ Di l) = J
    have fin : ∀ (l : List (List Int × D)) (x5 x6 x7 x8 x9 : Slot), l.length ≤ i + 1 → Di l → J [some (.int kind, false), some (.list (cs.map .int), false), some (.int most, false), some (.int wide, false), some (.dict (dkL l), true), x5, x6, x7, x8, x9, none] := fun l x5 x6 x7 x8 x9 a b => by
      rw [← hJ]; exact ⟨l, x5, x6, x7, x8, x9, rfl, a, b⟩
    have rest : ∀ (jj : Int), bd 5 jj → Nx (exec Φ (.cons (.asg 8 [] (.call "_law_height_by" (.cons (.var 0) (.cons (.var 6) (.cons (.var 7) (.cons (.bin .fdiv (.brw 5) (.bin .mul (.brw 3) (.brw 3))) .nil)))))) (.cons (.iff [] (.cmp .inn (.tup (.cons (.var 6) (.cons (.var 7) .nil))) (.brw 4)) (.cons (.asg 9 [] (.idx (.brw 4) (.tup (.cons (.var 6) (.cons (.var 7) .nil))))) (.cons (.iff [] (.cmp .gt (.bin .mul (.idx (.brw 8) (.cst (.int 0))) (.idx (.brw 9) (.cst (.int 1)))) (.bin .mul (.idx (.brw 9) (.cst (.int 0))) (.idx (.brw 8) (.cst (.int 1))))) (.cons (.seti 4 [] (.tup (.cons (.var 6) (.cons (.var 7) .nil))) (.var 8)) .nil) .nil) .nil)) (.cons (.iff [] (.cmp .lt (.bi .len (.cons (.brw 4) .nil)) (.brw 2)) (.cons (.seti 4 [] (.tup (.cons (.var 6) (.cons (.var 7) .nil))) (.var 8)) .nil) .nil) .nil)) .nil))
        [some (.int kind, false), some (.list (cs.map .int), false), some (.int most, false), some (.int wide, false), some (.dict (dkL l), true), some (.int c, false), some (.int (c.fmod wide), false), some (.int jj, false), x8, x9, none]) J := fun jj hj => by
      obtain ⟨f, ef, gf⟩ := e_height hh hw hk bi hj (ce_fdiv cc ww)
      have put : ∀ x9' : Slot, putO [some (.int kind, false), some (.list (cs.map .int), false), some (.int most, false), some (.int wide, false), some (.dict (dkL l), true), some (.int c, false), some (.int (c.fmod wide), false), some (.int jj, false), some (tp f, false), x9', none] 4 (.tuple [.int (c.fmod wide), .int jj]) (tp f) = some (.next [some (.int kind, false), some (.list (cs.map .int), false), some (.int most, false), some (.int wide, false), some (.dict (dkL (dput l [c.fmod wide, jj] (tp f))), true), some (.int c, false), some (.int (c.fmod wide), false), some (.int jj, false), some (tp f, false), x9', none]) := fun x9' => dk_put rfl lim1
      have okp : ∀ x9' : Slot, J [some (.int kind, false), some (.list (cs.map .int), false), some (.int most, false), some (.int wide, false), some (.dict (dkL (dput l [c.fmod wide, jj] (tp f))), true), some (.int c, false), some (.int (c.fmod wide), false), some (.int jj, false), some (tp f, false), x9', none] := fun x9' =>
        fin _ _ _ _ _ _ (by have := dput_len l [c.fmod wide, jj] (tp f); omega) (hD.put bi hj gf)
      have ok0 : ∀ x9' : Slot, J [some (.int kind, false), some (.list (cs.map .int), false), some (.int most, false), some (.int wide, false), some (.dict (dkL l), true), some (.int c, false), some (.int (c.fmod wide), false), some (.int jj, false), some (tp f, false), x9', none] := fun x9' => fin _ _ _ _ _ _ (by omega) hD
      by_cases hin : dhas l [c.fmod wide, jj] = true
      · obtain ⟨v, e1, e2⟩ := dfind_some (dhas_mem hin)
        obtain ⟨_, _, f2, _, _, _, ev2, gf2⟩ := hD _ e2
        have ev2 : v = tp f2 := ev2
        subst ev2
        have m1 := mulOk_bd gf.a gf2.b (by decide)
        have m2 := mulOk_bd gf2.a gf.b (by decide)
        by_cases hgt : f2.1 * f.2 < f.1 * f2.2
        · simp [init, ev_var, ev_brw, ev_cst, ev_bin, ev_neg, ev_not, ev_cmp, ev_and, ev_or, ev_ite, ev_call, ev_bi, ev_isi, ev_idx, ev_sl, ev_tup, ev_lst, ev_lc, evs_nil, evs_cons, evb_nil, evb_cons, evo_nil, evo_cons, ex_nil, ex_pass, ex_brk, ex_cons, ex_asg, ex_unp, ex_par, ex_aug, ex_ret, ex_retv, ex_iff, ex_for, ex_forc, forcX.eq_1, ex_whl, ex_app, ex_seti, ev_dnew, ev_dnewI, setkX.eq_1, setiX.eq_1, setiX.eq_2, ex_try, ex_hnd, phX.eq_1, try_exc, try_l, try_t, tryO_nil, tryO_one, hnd_eq, hndE.eq_1, hndE.eq_2, ex_pop, ex_clr, ex_revl, varX.eq_1, varX.eq_2, brwX.eq_1, binX.eq_1, negX.eq_1, notX.eq_1, cmpX.eq_1, boX.eq_1, andX.eq_1, andX.eq_2, orX.eq_1, orX.eq_2, iteX.eq_1, iteX.eq_2, retX.eq_1, retX.eq_2, callX.eq_1, biX.eq_1, isiX.eq_1, idxX.eq_1, slX.eq_1, tupX.eq_1, lstX.eq_1, iterX.eq_1, lcX.eq_1, consX.eq_1, consX.eq_2, consB.eq_1, oX.eq_1, thn.eq_1, thn.eq_2, thn.eq_3, asgX.eq_1, asgX.eq_2, unpX.eq_1, unpX.eq_2, parX.eq_1, augX.eq_1, retvX.eq_1, rtX.eq_1, rtX.eq_2, iffX.eq_1, iffX.eq_2, putX.eq_1, ownX.eq_1, appX.eq_1, appX.eq_2, popX.eq_1, mapX.eq_1, frz, frzAt, aft, asI, asB, asT, asTL.eq_1, asTL.eq_2, asL, fl_t, fl_l, fl_d, fl_i, fl_b, fl_n, fl_tp, fa_nil, fa_cons, fa_tp, fa_int, ks_l, ks_lz, ks_t, ks_i, ks_b, ks_n, ks_d, ks_tp, aftR, sc_l, sc_t, sc_i, sc_b, sc_n, outV, ty_ii, ty_bi, ty_ll, ty_tt, ty_bb, ty_ib, ty_lt, ty_li, ty_ls, ty_ss, ty_sl, ty_st, bindT, setMany, setL, intAt, catL, cm_lt, cm_le, cm_gt, cm_ge, cm_eqi, cm_nei, op_add, op_sub, op_mul, op_fdiv, op_mod, ix_t0, ix_t1, ix_t2, scal_tp, pow_ok, len_l, len_t, len_s, xb_abs, xb_max2, xb_min2, xb_list, xb_listT, xb_intb, xb_inti, xb_min, xb_max, it_seq, it_seqT, it_seqS, it_enum, it_zip, it_rev, mww, dww, ef, dk_in, hin, dk_get, e1, ix_t0, ix_t1, scal_tp, show idxO (tp f) (.int 0) = some (.int f.1) from ix_t0 _ _, show idxO (tp f) (.int 1) = some (.int f.2) from ix_t1 _ _ _, show idxO (tp f2) (.int 0) = some (.int f2.1) from ix_t0 _ _, show idxO (tp f2) (.int 1) = some (.int f2.2) from ix_t1 _ _ _, m1, m2, hgt, put]
          exact Nx.mk (okp _)
        · simp [init, ev_var, ev_brw, ev_cst, ev_bin, ev_neg, ev_not, ev_cmp, ev_and, ev_or, ev_ite, ev_call, ev_bi, ev_isi, ev_idx, ev_sl, ev_tup, ev_lst, ev_lc, evs_nil, evs_cons, evb_nil, evb_cons, evo_nil, evo_cons, ex_nil, ex_pass, ex_brk, ex_cons, ex_asg, ex_unp, ex_par, ex_aug, ex_ret, ex_retv, ex_iff, ex_for, ex_forc, forcX.eq_1, ex_whl, ex_app, ex_seti, ev_dnew, ev_dnewI, setkX.eq_1, setiX.eq_1, setiX.eq_2, ex_try, ex_hnd, phX.eq_1, try_exc, try_l, try_t, tryO_nil, tryO_one, hnd_eq, hndE.eq_1, hndE.eq_2, ex_pop, ex_clr, ex_revl, varX.eq_1, varX.eq_2, brwX.eq_1, binX.eq_1, negX.eq_1, notX.eq_1, cmpX.eq_1, boX.eq_1, andX.eq_1, andX.eq_2, orX.eq_1, orX.eq_2, iteX.eq_1, iteX.eq_2, retX.eq_1, retX.eq_2, callX.eq_1, biX.eq_1, isiX.eq_1, idxX.eq_1, slX.eq_1, tupX.eq_1, lstX.eq_1, iterX.eq_1, lcX.eq_1, consX.eq_1, consX.eq_2, consB.eq_1, oX.eq_1, thn.eq_1, thn.eq_2, thn.eq_3, asgX.eq_1, asgX.eq_2, unpX.eq_1, unpX.eq_2, parX.eq_1, augX.eq_1, retvX.eq_1, rtX.eq_1, rtX.eq_2, iffX.eq_1, iffX.eq_2, putX.eq_1, ownX.eq_1, appX.eq_1, appX.eq_2, popX.eq_1, mapX.eq_1, frz, frzAt, aft, asI, asB, asT, asTL.eq_1, asTL.eq_2, asL, fl_t, fl_l, fl_d, fl_i, fl_b, fl_n, fl_tp, fa_nil, fa_cons, fa_tp, fa_int, ks_l, ks_lz, ks_t, ks_i, ks_b, ks_n, ks_d, ks_tp, aftR, sc_l, sc_t, sc_i, sc_b, sc_n, outV, ty_ii, ty_bi, ty_ll, ty_tt, ty_bb, ty_ib, ty_lt, ty_li, ty_ls, ty_ss, ty_sl, ty_st, bindT, setMany, setL, intAt, catL, cm_lt, cm_le, cm_gt, cm_ge, cm_eqi, cm_nei, op_add, op_sub, op_mul, op_fdiv, op_mod, ix_t0, ix_t1, ix_t2, scal_tp, pow_ok, len_l, len_t, len_s, xb_abs, xb_max2, xb_min2, xb_list, xb_listT, xb_intb, xb_inti, xb_min, xb_max, it_seq, it_seqT, it_seqS, it_enum, it_zip, it_rev, mww, dww, ef, dk_in, hin, dk_get, e1, ix_t0, ix_t1, scal_tp, show idxO (tp f) (.int 0) = some (.int f.1) from ix_t0 _ _, show idxO (tp f) (.int 1) = some (.int f.2) from ix_t1 _ _ _, show idxO (tp f2) (.int 0) = some (.int f2.1) from ix_t0 _ _, show idxO (tp f2) (.int 1) = some (.int f2.2) from ix_t1 _ _ _, m1, m2, hgt]
          exact Nx.mk (ok0 _)
      · have hin' : dhas l [c.fmod wide, jj] = false := by simpa using hin
        by_cases hm : (l.length : Int) < most
        · simp [init, ev_var, ev_brw, ev_cst, ev_bin, ev_neg, ev_not, ev_cmp, ev_and, ev_or, ev_ite, ev_call, ev_bi, ev_isi, ev_idx, ev_sl, ev_tup, ev_lst, ev_lc, evs_nil, evs_cons, evb_nil, evb_cons, evo_nil, evo_cons, ex_nil, ex_pass, ex_brk, ex_cons, ex_asg, ex_unp, ex_par, ex_aug, ex_ret, ex_retv, ex_iff, ex_for, ex_forc, forcX.eq_1, ex_whl, ex_app, ex_seti, ev_dnew, ev_dnewI, setkX.eq_1, setiX.eq_1, setiX.eq_2, ex_try, ex_hnd, phX.eq_1, try_exc, try_l, try_t, tryO_nil, tryO_one, hnd_eq, hndE.eq_1, hndE.eq_2, ex_pop, ex_clr, ex_revl, varX.eq_1, varX.eq_2, brwX.eq_1, binX.eq_1, negX.eq_1, notX.eq_1, cmpX.eq_1, boX.eq_1, andX.eq_1, andX.eq_2, orX.eq_1, orX.eq_2, iteX.eq_1, iteX.eq_2, retX.eq_1, retX.eq_2, callX.eq_1, biX.eq_1, isiX.eq_1, idxX.eq_1, slX.eq_1, tupX.eq_1, lstX.eq_1, iterX.eq_1, lcX.eq_1, consX.eq_1, consX.eq_2, consB.eq_1, oX.eq_1, thn.eq_1, thn.eq_2, thn.eq_3, asgX.eq_1, asgX.eq_2, unpX.eq_1, unpX.eq_2, parX.eq_1, augX.eq_1, retvX.eq_1, rtX.eq_1, rtX.eq_2, iffX.eq_1, iffX.eq_2, putX.eq_1, ownX.eq_1, appX.eq_1, appX.eq_2, popX.eq_1, mapX.eq_1, frz, frzAt, aft, asI, asB, asT, asTL.eq_1, asTL.eq_2, asL, fl_t, fl_l, fl_d, fl_i, fl_b, fl_n, fl_tp, fa_nil, fa_cons, fa_tp, fa_int, ks_l, ks_lz, ks_t, ks_i, ks_b, ks_n, ks_d, ks_tp, aftR, sc_l, sc_t, sc_i, sc_b, sc_n, outV, ty_ii, ty_bi, ty_ll, ty_tt, ty_bb, ty_ib, ty_lt, ty_li, ty_ls, ty_ss, ty_sl, ty_st, bindT, setMany, setL, intAt, catL, cm_lt, cm_le, cm_gt, cm_ge, cm_eqi, cm_nei, op_add, op_sub, op_mul, op_fdiv, op_mod, ix_t0, ix_t1, ix_t2, scal_tp, pow_ok, len_l, len_t, len_s, xb_abs, xb_max2, xb_min2, xb_list, xb_listT, xb_intb, xb_inti, xb_min, xb_max, it_seq, it_seqT, it_seqS, it_enum, it_zip, it_rev, mww, dww, ef, dk_in, hin', dk_len, hm, scal_tp, put]
          exact Nx.mk (okp _)
        · simp [init, ev_var, ev_brw, ev_cst, ev_bin, ev_neg, ev_not, ev_cmp, ev_and, ev_or, ev_ite, ev_call, ev_bi, ev_isi, ev_idx, ev_sl, ev_tup, ev_lst, ev_lc, evs_nil, evs_cons, evb_nil, evb_cons, evo_nil, evo_cons, ex_nil, ex_pass, ex_brk, ex_cons, ex_asg, ex_unp, ex_par, ex_aug, ex_ret, ex_retv, ex_iff, ex_for, ex_forc, forcX.eq_1, ex_whl, ex_app, ex_seti, ev_dnew, ev_dnewI, setkX.eq_1, setiX.eq_1, setiX.eq_2, ex_try, ex_hnd, phX.eq_1, try_exc, try_l, try_t, tryO_nil, tryO_one, hnd_eq, hndE.eq_1, hndE.eq_2, ex_pop, ex_clr, ex_revl, varX.eq_1, varX.eq_2, brwX.eq_1, binX.eq_1, negX.eq_1, notX.eq_1, cmpX.eq_1, boX.eq_1, andX.eq_1, andX.eq_2, orX.eq_1, orX.eq_2, iteX.eq_1, iteX.eq_2, retX.eq_1, retX.eq_2, callX.eq_1, biX.eq_1, isiX.eq_1, idxX.eq_1, slX.eq_1, tupX.eq_1, lstX.eq_1, iterX.eq_1, lcX.eq_1, consX.eq_1, consX.eq_2, consB.eq_1, oX.eq_1, thn.eq_1, thn.eq_2, thn.eq_3, asgX.eq_1, asgX.eq_2, unpX.eq_1, unpX.eq_2, parX.eq_1, augX.eq_1, retvX.eq_1, rtX.eq_1, rtX.eq_2, iffX.eq_1, iffX.eq_2, putX.eq_1, ownX.eq_1, appX.eq_1, appX.eq_2, popX.eq_1, mapX.eq_1, frz, frzAt, aft, asI, asB, asT, asTL.eq_1, asTL.eq_2, asL, fl_t, fl_l, fl_d, fl_i, fl_b, fl_n, fl_tp, fa_nil, fa_cons, fa_tp, fa_int, ks_l, ks_lz, ks_t, ks_i, ks_b, ks_n, ks_d, ks_tp, aftR, sc_l, sc_t, sc_i, sc_b, sc_n, outV, ty_ii, ty_bi, ty_ll, ty_tt, ty_bb, ty_ib, ty_lt, ty_li, ty_ls, ty_ss, ty_sl, ty_st, bindT, setMany, setL, intAt, catL, cm_lt, cm_le, cm_gt, cm_ge, cm_eqi, cm_nei, op_add, op_sub, op_mul, op_fdiv, op_mod, ix_t0, ix_t1, ix_t2, scal_tp, pow_ok, len_l, len_t, len_s, xb_abs, xb_max2, xb_min2, xb_list, xb_listT, xb_intb, xb_inti, xb_min, xb_max, it_seq, it_seqT, it_seqS, it_enum, it_zip, it_rev, mww, dww, ef, dk_in, hin', dk_len, hm, scal_tp]
          exact Nx.mk (ok0 _)
    by_cases k2 : kind.fmod 4 = 2
    · have bk : bd 2 ((kind.fdiv 4).fmod 2) := bd_mono (bd_fmod (bd_lit 2) (by decide)) (by decide +kernel)
      have mk : mulOk (c.fmod wide) ((kind.fdiv 4).fmod 2) = true := mulOk_bd bi bk (by decide)
      have bj : bd 5 (c.fmod wide * (kind.fdiv 4).fmod 2) := by
        have h1 := Int.fmod_nonneg_of_pos (kind.fdiv 4) (show (0 : Int) < 2 by decide)
        have h2 := Int.fmod_lt_of_pos (kind.fdiv 4) (show (0 : Int) < 2 by decide)
        rcases (show (kind.fdiv 4).fmod 2 = 0 ∨ (kind.fdiv 4).fmod 2 = 1 by omega) with e | e
        · rw [e, Int.mul_zero]; exact bd_of (by decide)
        · rw [e, Int.mul_one]; exact bi
      have := rest _ bj
      simp only [ex_cons, ex_asg] at this
      simp [init, ev_var, ev_brw, ev_cst, ev_bin, ev_neg, ev_not, ev_cmp, ev_and, ev_or, ev_ite, ev_call, ev_bi, ev_isi, ev_idx, ev_sl, ev_tup, ev_lst, ev_lc, evs_nil, evs_cons, evb_nil, evb_cons, evo_nil, evo_cons, ex_nil, ex_pass, ex_brk, ex_cons, ex_asg, ex_unp, ex_par, ex_aug, ex_ret, ex_retv, ex_iff, ex_for, ex_forc, forcX.eq_1, ex_whl, ex_app, ex_seti, ev_dnew, ev_dnewI, setkX.eq_1, setiX.eq_1, setiX.eq_2, ex_try, ex_hnd, phX.eq_1, try_exc, try_l, try_t, tryO_nil, tryO_one, hnd_eq, hndE.eq_1, hndE.eq_2, ex_pop, ex_clr, ex_revl, varX.eq_1, varX.eq_2, brwX.eq_1, binX.eq_1, negX.eq_1, notX.eq_1, cmpX.eq_1, boX.eq_1, andX.eq_1, andX.eq_2, orX.eq_1, orX.eq_2, iteX.eq_1, iteX.eq_2, retX.eq_1, retX.eq_2, callX.eq_1, biX.eq_1, isiX.eq_1, idxX.eq_1, slX.eq_1, tupX.eq_1, lstX.eq_1, iterX.eq_1, lcX.eq_1, consX.eq_1, consX.eq_2, consB.eq_1, oX.eq_1, thn.eq_1, thn.eq_2, thn.eq_3, asgX.eq_1, asgX.eq_2, unpX.eq_1, unpX.eq_2, parX.eq_1, augX.eq_1, retvX.eq_1, rtX.eq_1, rtX.eq_2, iffX.eq_1, iffX.eq_2, putX.eq_1, ownX.eq_1, appX.eq_1, appX.eq_2, popX.eq_1, mapX.eq_1, frz, frzAt, aft, asI, asB, asT, asTL.eq_1, asTL.eq_2, asL, fl_t, fl_l, fl_d, fl_i, fl_b, fl_n, fl_tp, fa_nil, fa_cons, fa_tp, fa_int, ks_l, ks_lz, ks_t, ks_i, ks_b, ks_n, ks_d, ks_tp, aftR, sc_l, sc_t, sc_i, sc_b, sc_n, outV, ty_ii, ty_bi, ty_ll, ty_tt, ty_bb, ty_ib, ty_lt, ty_li, ty_ls, ty_ss, ty_sl, ty_st, bindT, setMany, setL, intAt, catL, cm_lt, cm_le, cm_gt, cm_ge, cm_eqi, cm_nei, op_add, op_sub, op_mul, op_fdiv, op_mod, ix_t0, ix_t1, ix_t2, scal_tp, pow_ok, len_l, len_t, len_s, xb_abs, xb_max2, xb_min2, xb_list, xb_listT, xb_intb, xb_inti, xb_min, xb_max, it_seq, it_seqT, it_seqS, it_enum, it_zip, it_rev, wn, dw, k2, d4, mk] at this ⊢
      exact this
    · have := rest _ (wide_bd (x := c.fdiv wide) w1 w2)
      simp only [ex_cons, ex_asg] at this
      simp [init, ev_var, ev_brw, ev_cst, ev_bin, ev_neg, ev_not, ev_cmp, ev_and, ev_or, ev_ite, ev_call, ev_bi, ev_isi, ev_idx, ev_sl, ev_tup, ev_lst, ev_lc, evs_nil, evs_cons, evb_nil, evb_cons, evo_nil, evo_cons, ex_nil, ex_pass, ex_brk, ex_cons, ex_asg, ex_unp, ex_par, ex_aug, ex_ret, ex_retv, ex_iff, ex_for, ex_forc, forcX.eq_1, ex_whl, ex_app, ex_seti, ev_dnew, ev_dnewI, setkX.eq_1, setiX.eq_1, setiX.eq_2, ex_try, ex_hnd, phX.eq_1, try_exc, try_l, try_t, tryO_nil, tryO_one, hnd_eq, hndE.eq_1, hndE.eq_2, ex_pop, ex_clr, ex_revl, varX.eq_1, varX.eq_2, brwX.eq_1, binX.eq_1, negX.eq_1, notX.eq_1, cmpX.eq_1, boX.eq_1, andX.eq_1, andX.eq_2, orX.eq_1, orX.eq_2, iteX.eq_1, iteX.eq_2, retX.eq_1, retX.eq_2, callX.eq_1, biX.eq_1, isiX.eq_1, idxX.eq_1, slX.eq_1, tupX.eq_1, lstX.eq_1, iterX.eq_1, lcX.eq_1, consX.eq_1, consX.eq_2, consB.eq_1, oX.eq_1, thn.eq_1, thn.eq_2, thn.eq_3, asgX.eq_1, asgX.eq_2, unpX.eq_1, unpX.eq_2, parX.eq_1, augX.eq_1, retvX.eq_1, rtX.eq_1, rtX.eq_2, iffX.eq_1, iffX.eq_2, putX.eq_1, ownX.eq_1, appX.eq_1, appX.eq_2, popX.eq_1, mapX.eq_1, frz, frzAt, aft, asI, asB, asT, asTL.eq_1, asTL.eq_2, asL, fl_t, fl_l, fl_d, fl_i, fl_b, fl_n, fl_tp, fa_nil, fa_cons, fa_tp, fa_int, ks_l, ks_lz, ks_t, ks_i, ks_b, ks_n, ks_d, ks_tp, aftR, sc_l, sc_t, sc_i, sc_b, sc_n, outV, ty_ii, ty_bi, ty_ll, ty_tt, ty_bb, ty_ib, ty_lt, ty_li, ty_ls, ty_ss, ty_sl, ty_st, bindT, setMany, setL, intAt, catL, cm_lt, cm_le, cm_gt, cm_ge, cm_eqi, cm_nei, op_add, op_sub, op_mul, op_fdiv, op_mod, ix_t0, ix_t1, ix_t2, scal_tp, pow_ok, len_l, len_t, len_s, xb_abs, xb_max2, xb_min2, xb_list, xb_listT, xb_intb, xb_inti, xb_min, xb_max, it_seq, it_seqT, it_seqS, it_enum, it_zip, it_rev, wn, dw, k2, d4] at this ⊢
      exact this
  · rintro ρ' ⟨l, x5, x6, x7, x8, x9, rfl, hll, hD⟩
    rw [List.length_map] at hll
    have endd : ∀ (l : List (List Int × D)) (x5 x6 x7 x8 x9 : Slot), l ≠ [] → l.length ≤ 61 → Di l → Ex ((exec Φ (.cons (.ret [] (.lc (.nm 10) .seq (.cons (.bi .sorted (.cons (.brw 4) .nil)) .nil) (.cst (.bool true)) (.tup (.cons (.idx (.brw 10) (.cst (.int 0))) (.cons (.idx (.brw 10) (.cst (.int 1))) (.cons (.idx (.brw 4) (.brw 10)) .nil)))))) .nil)
      [some (.int kind, false), some (.list (cs.map .int), false), some (.int most, false), some (.int wide, false), some (.dict (dkL l), true), x5, x6, x7, x8, x9, none]).bind outV) R := fun l x5 x6 x7 x8 x9 ne hlen hD => by
      have ok : setOk (l.map (·.1)) = true := by
        unfold setOk
        rw [Bool.and_eq_true, decide_eq_true_eq]
        refine ⟨by rw [List.length_map]; omega, List.all_eq_true.mpr fun k hk => ?_⟩
        obtain ⟨q, hq, rfl⟩ := List.mem_map.mp hk
        obtain ⟨i, j, f, e, _⟩ := hD q hq
        rw [e]; rfl
      have so := dk_sort ok
      generalize hK : (l.map (·.1)).mergeSort (fun a b => decide (a ≤ b)) = K at so
      have mK : ∀ k ∈ K, k ∈ l.map (·.1) := fun k hk => by rw [← hK] at hk; exact List.mem_mergeSort.mp hk
      have lK : K.length = l.length := by rw [← hK, List.length_mergeSort, List.length_map]
      obtain ⟨ps, lp, hp⟩ := pick (K := K) (R := fun k p => k = [p.i, p.j] ∧ dfind l k = some (tp p.h) ∧ gp p) fun k hk => by
        obtain ⟨v, e1, e2⟩ := dfind_some (mK k hk)
        obtain ⟨i, j, f, a1, a2, a3, a4, a5⟩ := hD _ e2
        have a1 : k = [i, j] := a1
        have a4 : v = tp f := a4
        exact ⟨⟨i, j, f⟩, a1, by rw [e1, a4], a2, a3, a5⟩
      have go : lcGoX Φ (.nm 10) (.cst (.bool true)) (.tup (.cons (.idx (.brw 10) (.cst (.int 0))) (.cons (.idx (.brw 10) (.cst (.int 1))) (.cons (.idx (.brw 4) (.brw 10)) .nil)))) [some (.int kind, false), some (.list (cs.map .int), false), some (.int most, false), some (.int wide, false), some (.dict (dkL l), true), x5, x6, x7, x8, x9, none] (K.map tupI) = some (ps.map pl) := by
        refine lc_map (by rw [List.length_map, List.length_map, lp]) fun n d y hd hy => ?_
        obtain ⟨k, hk, rfl⟩ := map_at hd
        obtain ⟨p, hp1, rfl⟩ := map_at hy
        obtain ⟨p', hp2, e1, e2, _⟩ := hp n k hk
        rw [hp1] at hp2
        cases hp2
        subst e1
        have g : idxO (.dict (dkL l)) (tupI [p.i, p.j]) = some (tp p.h) := by
          rw [← e2]; exact dk_get l p.i p.j
        refine ⟨_, (pl p, .z), rfl, by simp [init, ev_var, ev_brw, ev_cst, ev_bin, ev_neg, ev_not, ev_cmp, ev_and, ev_or, ev_ite, ev_call, ev_bi, ev_isi, ev_idx, ev_sl, ev_tup, ev_lst, ev_lc, evs_nil, evs_cons, evb_nil, evb_cons, evo_nil, evo_cons, ex_nil, ex_pass, ex_brk, ex_cons, ex_asg, ex_unp, ex_par, ex_aug, ex_ret, ex_retv, ex_iff, ex_for, ex_forc, forcX.eq_1, ex_whl, ex_app, ex_seti, ev_dnew, ev_dnewI, setkX.eq_1, setiX.eq_1, setiX.eq_2, ex_try, ex_hnd, phX.eq_1, try_exc, try_l, try_t, tryO_nil, tryO_one, hnd_eq, hndE.eq_1, hndE.eq_2, ex_pop, ex_clr, ex_revl, varX.eq_1, varX.eq_2, brwX.eq_1, binX.eq_1, negX.eq_1, notX.eq_1, cmpX.eq_1, boX.eq_1, andX.eq_1, andX.eq_2, orX.eq_1, orX.eq_2, iteX.eq_1, iteX.eq_2, retX.eq_1, retX.eq_2, callX.eq_1, biX.eq_1, isiX.eq_1, idxX.eq_1, slX.eq_1, tupX.eq_1, lstX.eq_1, iterX.eq_1, lcX.eq_1, consX.eq_1, consX.eq_2, consB.eq_1, oX.eq_1, thn.eq_1, thn.eq_2, thn.eq_3, asgX.eq_1, asgX.eq_2, unpX.eq_1, unpX.eq_2, parX.eq_1, augX.eq_1, retvX.eq_1, rtX.eq_1, rtX.eq_2, iffX.eq_1, iffX.eq_2, putX.eq_1, ownX.eq_1, appX.eq_1, appX.eq_2, popX.eq_1, mapX.eq_1, frz, frzAt, aft, asI, asB, asT, asTL.eq_1, asTL.eq_2, asL, fl_t, fl_l, fl_d, fl_i, fl_b, fl_n, fl_tp, fa_nil, fa_cons, fa_tp, fa_int, ks_l, ks_lz, ks_t, ks_i, ks_b, ks_n, ks_d, ks_tp, aftR, sc_l, sc_t, sc_i, sc_b, sc_n, outV, ty_ii, ty_bi, ty_ll, ty_tt, ty_bb, ty_ib, ty_lt, ty_li, ty_ls, ty_ss, ty_sl, ty_st, bindT, setMany, setL, intAt, catL, cm_lt, cm_le, cm_gt, cm_ge, cm_eqi, cm_nei, op_add, op_sub, op_mul, op_fdiv, op_mod, ix_t0, ix_t1, ix_t2, scal_tp, pow_ok, len_l, len_t, len_s, xb_abs, xb_max2, xb_min2, xb_list, xb_listT, xb_intb, xb_inti, xb_min, xb_max, it_seq, it_seqT, it_seqS, it_enum, it_zip, it_rev], ?_, rfl⟩
        simp [init, ev_var, ev_brw, ev_cst, ev_bin, ev_neg, ev_not, ev_cmp, ev_and, ev_or, ev_ite, ev_call, ev_bi, ev_isi, ev_idx, ev_sl, ev_tup, ev_lst, ev_lc, evs_nil, evs_cons, evb_nil, evb_cons, evo_nil, evo_cons, ex_nil, ex_pass, ex_brk, ex_cons, ex_asg, ex_unp, ex_par, ex_aug, ex_ret, ex_retv, ex_iff, ex_for, ex_forc, forcX.eq_1, ex_whl, ex_app, ex_seti, ev_dnew, ev_dnewI, setkX.eq_1, setiX.eq_1, setiX.eq_2, ex_try, ex_hnd, phX.eq_1, try_exc, try_l, try_t, tryO_nil, tryO_one, hnd_eq, hndE.eq_1, hndE.eq_2, ex_pop, ex_clr, ex_revl, varX.eq_1, varX.eq_2, brwX.eq_1, binX.eq_1, negX.eq_1, notX.eq_1, cmpX.eq_1, boX.eq_1, andX.eq_1, andX.eq_2, orX.eq_1, orX.eq_2, iteX.eq_1, iteX.eq_2, retX.eq_1, retX.eq_2, callX.eq_1, biX.eq_1, isiX.eq_1, idxX.eq_1, slX.eq_1, tupX.eq_1, lstX.eq_1, iterX.eq_1, lcX.eq_1, consX.eq_1, consX.eq_2, consB.eq_1, oX.eq_1, thn.eq_1, thn.eq_2, thn.eq_3, asgX.eq_1, asgX.eq_2, unpX.eq_1, unpX.eq_2, parX.eq_1, augX.eq_1, retvX.eq_1, rtX.eq_1, rtX.eq_2, iffX.eq_1, iffX.eq_2, putX.eq_1, ownX.eq_1, appX.eq_1, appX.eq_2, popX.eq_1, mapX.eq_1, frz, frzAt, aft, asI, asB, asT, asTL.eq_1, asTL.eq_2, asL, fl_t, fl_l, fl_d, fl_i, fl_b, fl_n, fl_tp, fa_nil, fa_cons, fa_tp, fa_int, ks_l, ks_lz, ks_t, ks_i, ks_b, ks_n, ks_d, ks_tp, aftR, sc_l, sc_t, sc_i, sc_b, sc_n, outV, ty_ii, ty_bi, ty_ll, ty_tt, ty_bb, ty_ib, ty_lt, ty_li, ty_ls, ty_ss, ty_sl, ty_st, bindT, setMany, setL, intAt, catL, cm_lt, cm_le, cm_gt, cm_ge, cm_eqi, cm_nei, op_add, op_sub, op_mul, op_fdiv, op_mod, ix_t0, ix_t1, ix_t2, scal_tp, pow_ok, len_l, len_t, len_s, xb_abs, xb_max2, xb_min2, xb_list, xb_listT, xb_intb, xb_inti, xb_min, xb_max, it_seq, it_seqT, it_seqS, it_enum, it_zip, it_rev, g, show idxO (tupI [p.i, p.j]) (.int 0) = some (.int p.i) from ix_t0 _ _, show idxO (tupI [p.i, p.j]) (.int 1) = some (.int p.j) from ix_t1 _ _ _]
        rfl
      have lim2 : K.length ≤ lim := by unfold lim; omega
      simp [init, ev_var, ev_brw, ev_cst, ev_bin, ev_neg, ev_not, ev_cmp, ev_and, ev_or, ev_ite, ev_call, ev_bi, ev_isi, ev_idx, ev_sl, ev_tup, ev_lst, ev_lc, evs_nil, evs_cons, evb_nil, evb_cons, evo_nil, evo_cons, ex_nil, ex_pass, ex_brk, ex_cons, ex_asg, ex_unp, ex_par, ex_aug, ex_ret, ex_retv, ex_iff, ex_for, ex_forc, forcX.eq_1, ex_whl, ex_app, ex_seti, ev_dnew, ev_dnewI, setkX.eq_1, setiX.eq_1, setiX.eq_2, ex_try, ex_hnd, phX.eq_1, try_exc, try_l, try_t, tryO_nil, tryO_one, hnd_eq, hndE.eq_1, hndE.eq_2, ex_pop, ex_clr, ex_revl, varX.eq_1, varX.eq_2, brwX.eq_1, binX.eq_1, negX.eq_1, notX.eq_1, cmpX.eq_1, boX.eq_1, andX.eq_1, andX.eq_2, orX.eq_1, orX.eq_2, iteX.eq_1, iteX.eq_2, retX.eq_1, retX.eq_2, callX.eq_1, biX.eq_1, isiX.eq_1, idxX.eq_1, slX.eq_1, tupX.eq_1, lstX.eq_1, iterX.eq_1, lcX.eq_1, consX.eq_1, consX.eq_2, consB.eq_1, oX.eq_1, thn.eq_1, thn.eq_2, thn.eq_3, asgX.eq_1, asgX.eq_2, unpX.eq_1, unpX.eq_2, parX.eq_1, augX.eq_1, retvX.eq_1, rtX.eq_1, rtX.eq_2, iffX.eq_1, iffX.eq_2, putX.eq_1, ownX.eq_1, appX.eq_1, appX.eq_2, popX.eq_1, mapX.eq_1, frz, frzAt, aft, asI, asB, asT, asTL.eq_1, asTL.eq_2, asL, fl_t, fl_l, fl_d, fl_i, fl_b, fl_n, fl_tp, fa_nil, fa_cons, fa_tp, fa_int, ks_l, ks_lz, ks_t, ks_i, ks_b, ks_n, ks_d, ks_tp, aftR, sc_l, sc_t, sc_i, sc_b, sc_n, outV, ty_ii, ty_bi, ty_ll, ty_tt, ty_bb, ty_ib, ty_lt, ty_li, ty_ls, ty_ss, ty_sl, ty_st, bindT, setMany, setL, intAt, catL, cm_lt, cm_le, cm_gt, cm_ge, cm_eqi, cm_nei, op_add, op_sub, op_mul, op_fdiv, op_mod, ix_t0, ix_t1, ix_t2, scal_tp, pow_ok, len_l, len_t, len_s, xb_abs, xb_max2, xb_min2, xb_list, xb_listT, xb_intb, xb_inti, xb_min, xb_max, it_seq, it_seqT, it_seqS, it_enum, it_zip, it_rev, so, go, lim2]
      refine Ex.mk ?_
      rw [← hR]
      refine ⟨ps, rfl, fun e => ne ?_, by omega, fun p hp1 => ?_⟩
      · rw [e] at lp
        exact List.eq_nil_of_length_eq_zero (by rw [← lK, ← lp]; rfl)
      · obtain ⟨n, hn, e⟩ := List.mem_iff_getElem.mp hp1
        have hn2 : n < K.length := by omega
        obtain ⟨p', a, _, _, g⟩ := hp n _ (List.getElem?_eq_getElem hn2)
        rw [List.getElem?_eq_getElem hn, e] at a
        cases a
        exact g
    by_cases hl0 : l = []
    · subst hl0
      have := endd (dput [] [kind.fmod wide, 0] (tp (0, 1))) x5 x6 x7 x8 x9 (dput_ne _ _ _) (by have := dput_len ([] : List (List Int × D)) [kind.fmod wide, 0] (tp (0, 1)); simp at this; omega)
        (Di.put (fun q hq => by cases hq) (wide_bd w1 w2) (bd_of (by decide)) ⟨bd_of (by decide), bd_of (by decide), by decide, by decide⟩)
      have put : putO [some (.int kind, false), some (.list (cs.map .int), false), some (.int most, false), some (.int wide, false), some (.dict (dkL []), true), x5, x6, x7, x8, x9, none] 4 (.tuple [.int (kind.fmod wide), .int 0]) (.tuple [.int 0, .int 1]) = some (.next [some (.int kind, false), some (.list (cs.map .int), false), some (.int most, false), some (.int wide, false), some (.dict (dkL (dput [] [kind.fmod wide, 0] (tp (0, 1)))), true), x5, x6, x7, x8, x9, none]) := dk_put rfl (by decide)
      have z := dk_nil []
      rw [ex_cons] at this
      simp [init, ev_var, ev_brw, ev_cst, ev_bin, ev_neg, ev_not, ev_cmp, ev_and, ev_or, ev_ite, ev_call, ev_bi, ev_isi, ev_idx, ev_sl, ev_tup, ev_lst, ev_lc, evs_nil, evs_cons, evb_nil, evb_cons, evo_nil, evo_cons, ex_nil, ex_pass, ex_brk, ex_cons, ex_asg, ex_unp, ex_par, ex_aug, ex_ret, ex_retv, ex_iff, ex_for, ex_forc, forcX.eq_1, ex_whl, ex_app, ex_seti, ev_dnew, ev_dnewI, setkX.eq_1, setiX.eq_1, setiX.eq_2, ex_try, ex_hnd, phX.eq_1, try_exc, try_l, try_t, tryO_nil, tryO_one, hnd_eq, hndE.eq_1, hndE.eq_2, ex_pop, ex_clr, ex_revl, varX.eq_1, varX.eq_2, brwX.eq_1, binX.eq_1, negX.eq_1, notX.eq_1, cmpX.eq_1, boX.eq_1, andX.eq_1, andX.eq_2, orX.eq_1, orX.eq_2, iteX.eq_1, iteX.eq_2, retX.eq_1, retX.eq_2, callX.eq_1, biX.eq_1, isiX.eq_1, idxX.eq_1, slX.eq_1, tupX.eq_1, lstX.eq_1, iterX.eq_1, lcX.eq_1, consX.eq_1, consX.eq_2, consB.eq_1, oX.eq_1, thn.eq_1, thn.eq_2, thn.eq_3, asgX.eq_1, asgX.eq_2, unpX.eq_1, unpX.eq_2, parX.eq_1, augX.eq_1, retvX.eq_1, rtX.eq_1, rtX.eq_2, iffX.eq_1, iffX.eq_2, putX.eq_1, ownX.eq_1, appX.eq_1, appX.eq_2, popX.eq_1, mapX.eq_1, frz, frzAt, aft, asI, asB, asT, asTL.eq_1, asTL.eq_2, asL, fl_t, fl_l, fl_d, fl_i, fl_b, fl_n, fl_tp, fa_nil, fa_cons, fa_tp, fa_int, ks_l, ks_lz, ks_t, ks_i, ks_b, ks_n, ks_d, ks_tp, aftR, sc_l, sc_t, sc_i, sc_b, sc_n, outV, ty_ii, ty_bi, ty_ll, ty_tt, ty_bb, ty_ib, ty_lt, ty_li, ty_ls, ty_ss, ty_sl, ty_st, bindT, setMany, setL, intAt, catL, cm_lt, cm_le, cm_gt, cm_ge, cm_eqi, cm_nei, op_add, op_sub, op_mul, op_fdiv, op_mod, ix_t0, ix_t1, ix_t2, scal_tp, pow_ok, len_l, len_t, len_s, xb_abs, xb_max2, xb_min2, xb_list, xb_listT, xb_intb, xb_inti, xb_min, xb_max, it_seq, it_seqT, it_seqS, it_enum, it_zip, it_rev, z, wn, put] at this ⊢
      exact this
    · have := endd l x5 x6 x7 x8 x9 hl0 (by omega) hD
      have z := dk_nil l
      have z2 : l.isEmpty = false := by cases l with
        | nil => exact absurd rfl hl0
        | cons _ _ => rfl
      rw [z2] at z
      rw [ex_cons] at this
      simp [init, ev_var, ev_brw, ev_cst, ev_bin, ev_neg, ev_not, ev_cmp, ev_and, ev_or, ev_ite, ev_call, ev_bi, ev_isi, ev_idx, ev_sl, ev_tup, ev_lst, ev_lc, evs_nil, evs_cons, evb_nil, evb_cons, evo_nil, evo_cons, ex_nil, ex_pass, ex_brk, ex_cons, ex_asg, ex_unp, ex_par, ex_aug, ex_ret, ex_retv, ex_iff, ex_for, ex_forc, forcX.eq_1, ex_whl, ex_app, ex_seti, ev_dnew, ev_dnewI, setkX.eq_1, setiX.eq_1, setiX.eq_2, ex_try, ex_hnd, phX.eq_1, try_exc, try_l, try_t, tryO_nil, tryO_one, hnd_eq, hndE.eq_1, hndE.eq_2, ex_pop, ex_clr, ex_revl, varX.eq_1, varX.eq_2, brwX.eq_1, binX.eq_1, negX.eq_1, notX.eq_1, cmpX.eq_1, boX.eq_1, andX.eq_1, andX.eq_2, orX.eq_1, orX.eq_2, iteX.eq_1, iteX.eq_2, retX.eq_1, retX.eq_2, callX.eq_1, biX.eq_1, isiX.eq_1, idxX.eq_1, slX.eq_1, tupX.eq_1, lstX.eq_1, iterX.eq_1, lcX.eq_1, consX.eq_1, consX.eq_2, consB.eq_1, oX.eq_1, thn.eq_1, thn.eq_2, thn.eq_3, asgX.eq_1, asgX.eq_2, unpX.eq_1, unpX.eq_2, parX.eq_1, augX.eq_1, retvX.eq_1, rtX.eq_1, rtX.eq_2, iffX.eq_1, iffX.eq_2, putX.eq_1, ownX.eq_1, appX.eq_1, appX.eq_2, popX.eq_1, mapX.eq_1, frz, frzAt, aft, asI, asB, asT, asTL.eq_1, asTL.eq_2, asL, fl_t, fl_l, fl_d, fl_i, fl_b, fl_n, fl_tp, fa_nil, fa_cons, fa_tp, fa_int, ks_l, ks_lz, ks_t, ks_i, ks_b, ks_n, ks_d, ks_tp, aftR, sc_l, sc_t, sc_i, sc_b, sc_n, outV, ty_ii, ty_bi, ty_ll, ty_tt, ty_bb, ty_ib, ty_lt, ty_li, ty_ls, ty_ss, ty_sl, ty_st, bindT, setMany, setL, intAt, catL, cm_lt, cm_le, cm_gt, cm_ge, cm_eqi, cm_nei, op_add, op_sub, op_mul, op_fdiv, op_mod, ix_t0, ix_t1, ix_t2, scal_tp, pow_ok, len_l, len_t, len_s, xb_abs, xb_max2, xb_min2, xb_list, xb_listT, xb_intb, xb_inti, xb_min, xb_max, it_seq, it_seqT, it_seqS, it_enum, it_zip, it_rev, z] at this ⊢
      exact this
theorem ix_p0 (p : Pl) : idxO (pl p) (.int 0) = some (.int p.i) := ix_t0 _ _
theorem ix_p1 (p : Pl) : idxO (pl p) (.int 1) = some (.int p.j) := ix_t1 _ _ _
theorem ix_p2 (p : Pl) : idxO (pl p) (.int 2) = some (tp p.h) := ix_t2 _ _ _ _
theorem ix_f0 (p : P) : idxO (tp p) (.int 0) = some (.int p.1) := ix_t0 _ _
theorem ix_f1 (p : P) : idxO (tp p) (.int 1) = some (.int p.2) := ix_t1 _ _ _
theorem e_cross {Φ : Ph} (h : Impl Φ "_law_crossing" f__law_crossing) (hw : Impl Φ "_law_low" f__law_low) {p q r : Pl} (gq : gp p) (gr : gp q) (gs : gp r) :
    Φ "_law_crossing" [pl p, pl q, pl r] = some (.none, false) ∨ ∃ a b : P, Φ "_law_crossing" [pl p, pl q, pl r] = some (.tuple [tp a, tp b], false) ∧ fr 400 a ∧ fr 400 b := by
  have bA0 := bd_sub gq.i gr.i
  have bA1 := bd_sub gq.j gr.j
  have bB0 := bd_sub gq.i gs.i
  have bB1 := bd_sub gq.j gs.j
  have bA2 := bd_sub (bd_mul gr.h.a gq.h.b) (bd_mul gq.h.a gr.h.b)
  have bB2 := bd_sub (bd_mul gs.h.a gq.h.b) (bd_mul gq.h.a gs.h.b)
  have n1 := mulOk_bd gr.h.a gq.h.b (by decide)
  have n2 := mulOk_bd gq.h.a gr.h.b (by decide)
  have n3 := mulOk_bd gs.h.a gq.h.b (by decide)
  have n4 := mulOk_bd gq.h.a gs.h.b (by decide)
  have n5 := mulOk_bd bA0 bB1 (by decide)
  have n6 := mulOk_bd bA1 bB0 (by decide)
  have n7 := mulOk_bd gr.h.b gq.h.b (by decide)
  have n8 := mulOk_bd gs.h.b gq.h.b (by decide)
  have bw := bd_sub (bd_mul bA0 bB1) (bd_mul bA1 bB0)
  have bf := bd_mul gr.h.b gq.h.b
  have bs := bd_mul gs.h.b gq.h.b
  have n9 := mulOk_bd bA2 bB1 (by decide)
  have n10 := mulOk_bd (bd_mul bA2 bB1) bs (by decide)
  have n11 := mulOk_bd bB2 bA1 (by decide)
  have n12 := mulOk_bd (bd_mul bB2 bA1) bf (by decide)
  have n13 := mulOk_bd bB2 bA0 (by decide)
  have n14 := mulOk_bd (bd_mul bB2 bA0) bf (by decide)
  have n15 := mulOk_bd bA2 bB0 (by decide)
  have n16 := mulOk_bd (bd_mul bA2 bB0) bs (by decide)
  have n17 := mulOk_bd bw bf (by decide)
  have n18 := mulOk_bd (bd_mul bw bf) bs (by decide)
  have pf : 0 < q.h.2 * p.h.2 := Int.mul_pos gr.h.pos gq.h.pos
  have psd : 0 < r.h.2 * p.h.2 := Int.mul_pos gs.h.pos gq.h.pos
  by_cases w0 : (p.i - q.i) * (p.j - r.j) - (p.j - q.j) * (p.i - r.i) = 0
  · left
    rw [h, ev_f _ rfl]
    simp [f__law_crossing, init, ev_var, ev_brw, ev_cst, ev_bin, ev_neg, ev_not, ev_cmp, ev_and, ev_or, ev_ite, ev_call, ev_bi, ev_isi, ev_idx, ev_sl, ev_tup, ev_lst, ev_lc, evs_nil, evs_cons, evb_nil, evb_cons, evo_nil, evo_cons, ex_nil, ex_pass, ex_brk, ex_cons, ex_asg, ex_unp, ex_par, ex_aug, ex_ret, ex_retv, ex_iff, ex_for, ex_forc, forcX.eq_1, ex_whl, ex_app, ex_seti, ev_dnew, ev_dnewI, setkX.eq_1, setiX.eq_1, setiX.eq_2, ex_try, ex_hnd, phX.eq_1, try_exc, try_l, try_t, tryO_nil, tryO_one, hnd_eq, hndE.eq_1, hndE.eq_2, ex_pop, ex_clr, ex_revl, varX.eq_1, varX.eq_2, brwX.eq_1, binX.eq_1, negX.eq_1, notX.eq_1, cmpX.eq_1, boX.eq_1, andX.eq_1, andX.eq_2, orX.eq_1, orX.eq_2, iteX.eq_1, iteX.eq_2, retX.eq_1, retX.eq_2, callX.eq_1, biX.eq_1, isiX.eq_1, idxX.eq_1, slX.eq_1, tupX.eq_1, lstX.eq_1, iterX.eq_1, lcX.eq_1, consX.eq_1, consX.eq_2, consB.eq_1, oX.eq_1, thn.eq_1, thn.eq_2, thn.eq_3, asgX.eq_1, asgX.eq_2, unpX.eq_1, unpX.eq_2, parX.eq_1, augX.eq_1, retvX.eq_1, rtX.eq_1, rtX.eq_2, iffX.eq_1, iffX.eq_2, putX.eq_1, ownX.eq_1, appX.eq_1, appX.eq_2, popX.eq_1, mapX.eq_1, frz, frzAt, aft, asI, asB, asT, asTL.eq_1, asTL.eq_2, asL, fl_t, fl_l, fl_d, fl_i, fl_b, fl_n, fl_tp, fa_nil, fa_cons, fa_tp, fa_int, ks_l, ks_lz, ks_t, ks_i, ks_b, ks_n, ks_d, ks_tp, aftR, sc_l, sc_t, sc_i, sc_b, sc_n, outV, ty_ii, ty_bi, ty_ll, ty_tt, ty_bb, ty_ib, ty_lt, ty_li, ty_ls, ty_ss, ty_sl, ty_st, bindT, setMany, setL, intAt, catL, cm_lt, cm_le, cm_gt, cm_ge, cm_eqi, cm_nei, op_add, op_sub, op_mul, op_fdiv, op_mod, ix_t0, ix_t1, ix_t2, scal_tp, pow_ok, len_l, len_t, len_s, xb_abs, xb_max2, xb_min2, xb_list, xb_listT, xb_intb, xb_inti, xb_min, xb_max, it_seq, it_seqT, it_seqS, it_enum, it_zip, it_rev, ix_p0, ix_p1, ix_p2, ix_f0, ix_f1, n1, n2, n3, n4, n5, n6, w0]
  · right
    have nz : ((p.i - q.i) * (p.j - r.j) - (p.j - q.j) * (p.i - r.i)) * (q.h.2 * p.h.2) * (r.h.2 * p.h.2) ≠ 0 := fun e => by
      rcases Int.mul_eq_zero.mp e with e | e
      · rcases Int.mul_eq_zero.mp e with e | e
        · exact w0 e
        · omega
      · omega
    obtain ⟨a, ea, fa, _⟩ := e_low hw (n := 400) (bd_mono (bd_sub (bd_mul (bd_mul bA2 bB1) bs) (bd_mul (bd_mul bB2 bA1) bf)) (by decide)) (bd_mono (bd_mul (bd_mul bw bf) bs) (by decide)) (by decide) nz
    obtain ⟨b, eb, fb, _⟩ := e_low hw (n := 400) (bd_mono (bd_sub (bd_mul (bd_mul bB2 bA0) bf) (bd_mul (bd_mul bA2 bB0) bs)) (by decide)) (bd_mono (bd_mul (bd_mul bw bf) bs) (by decide)) (by decide) nz
    refine ⟨a, b, ?_, fa, fb⟩
    rw [h, ev_f _ rfl]
    simp [f__law_crossing, init, ev_var, ev_brw, ev_cst, ev_bin, ev_neg, ev_not, ev_cmp, ev_and, ev_or, ev_ite, ev_call, ev_bi, ev_isi, ev_idx, ev_sl, ev_tup, ev_lst, ev_lc, evs_nil, evs_cons, evb_nil, evb_cons, evo_nil, evo_cons, ex_nil, ex_pass, ex_brk, ex_cons, ex_asg, ex_unp, ex_par, ex_aug, ex_ret, ex_retv, ex_iff, ex_for, ex_forc, forcX.eq_1, ex_whl, ex_app, ex_seti, ev_dnew, ev_dnewI, setkX.eq_1, setiX.eq_1, setiX.eq_2, ex_try, ex_hnd, phX.eq_1, try_exc, try_l, try_t, tryO_nil, tryO_one, hnd_eq, hndE.eq_1, hndE.eq_2, ex_pop, ex_clr, ex_revl, varX.eq_1, varX.eq_2, brwX.eq_1, binX.eq_1, negX.eq_1, notX.eq_1, cmpX.eq_1, boX.eq_1, andX.eq_1, andX.eq_2, orX.eq_1, orX.eq_2, iteX.eq_1, iteX.eq_2, retX.eq_1, retX.eq_2, callX.eq_1, biX.eq_1, isiX.eq_1, idxX.eq_1, slX.eq_1, tupX.eq_1, lstX.eq_1, iterX.eq_1, lcX.eq_1, consX.eq_1, consX.eq_2, consB.eq_1, oX.eq_1, thn.eq_1, thn.eq_2, thn.eq_3, asgX.eq_1, asgX.eq_2, unpX.eq_1, unpX.eq_2, parX.eq_1, augX.eq_1, retvX.eq_1, rtX.eq_1, rtX.eq_2, iffX.eq_1, iffX.eq_2, putX.eq_1, ownX.eq_1, appX.eq_1, appX.eq_2, popX.eq_1, mapX.eq_1, frz, frzAt, aft, asI, asB, asT, asTL.eq_1, asTL.eq_2, asL, fl_t, fl_l, fl_d, fl_i, fl_b, fl_n, fl_tp, fa_nil, fa_cons, fa_tp, fa_int, ks_l, ks_lz, ks_t, ks_i, ks_b, ks_n, ks_d, ks_tp, aftR, sc_l, sc_t, sc_i, sc_b, sc_n, outV, ty_ii, ty_bi, ty_ll, ty_tt, ty_bb, ty_ib, ty_lt, ty_li, ty_ls, ty_ss, ty_sl, ty_st, bindT, setMany, setL, intAt, catL, cm_lt, cm_le, cm_gt, cm_ge, cm_eqi, cm_nei, op_add, op_sub, op_mul, op_fdiv, op_mod, ix_t0, ix_t1, ix_t2, scal_tp, pow_ok, len_l, len_t, len_s, xb_abs, xb_max2, xb_min2, xb_list, xb_listT, xb_intb, xb_inti, xb_min, xb_max, it_seq, it_seqT, it_seqS, it_enum, it_zip, it_rev, ix_p0, ix_p1, ix_p2, ix_f0, ix_f1, n1, n2, n3, n4, n5, n6, n7, n8, n9, n10, n11, n12, n13, n14, n15, n16, n17, n18, w0, ea, eb]
theorem at_mod {ps : List Pl} (h : ps ≠ []) (x : Int) : ∃ p ∈ ps, L2.atI (ps.map pl) (x.fmod (ps.length : Nat)) = some (pl p) := by
  have hn : (0 : Int) < (ps.length : Nat) := by have := List.length_pos_iff.mpr h; omega
  have h1 := Int.fmod_nonneg_of_pos x hn
  have h2 := Int.fmod_lt_of_pos x hn
  generalize x.fmod (ps.length : Nat) = z at *
  obtain ⟨k, rfl⟩ := Int.eq_ofNat_of_zero_le h1
  have hk : k < ps.length := by omega
  exact ⟨ps[k], List.getElem_mem hk, atI_nat (by rw [List.getElem?_map, List.getElem?_eq_getElem hk]; rfl)⟩
theorem isnn_n : cm .isnn .none .none = some false := rfl
theorem isnn_t (xs : List D) : cm .isnn (.tuple xs) .none = some true := rfl
theorem e_point {Φ : Ph} (h : Impl Φ "_law_point_by" f__law_point_by) (hc : Impl Φ "_law_crossing" f__law_crossing) (hw : Impl Φ "_law_low" f__law_low) {ps : List Pl} {cell other : Int} (ne : ps ≠ []) (hl : ps.length ≤ 61) (g : ∀ p ∈ ps, gp p) (h1 : ce cell) (h2 : ce other) :
    ∃ a b : P, Φ "_law_point_by" [.list (ps.map pl), .int cell, .int other] = some (.tuple [tp a, tp b], false) ∧ fr 400 a ∧ fr 400 b := by
  have nn : ∀ x : Int, ∀ m : Int, 0 < m → 0 ≤ x.fmod m := fun x m hm => Int.fmod_nonneg_of_pos x hm
  have p1 : powOk 10 20 = true := by decide
  have m1 : mulOk 2 100000000000000000000 = true := by decide +kernel
  have d3 : divOk 3 = true := by decide
  have d7 : divOk 7 = true := by decide
  have d9 : divOk 9 = true := by decide
  have d27 : divOk 27 = true := by decide
  have ln : (ps.length : Int) ≠ 0 := by have := List.length_pos_iff.mpr ne; omega
  have dl : divOk (ps.length : Nat) = true := divOk_bd (a := 10) (bd_of (by show _ < 1024; omega)) ln (by decide)
  -- the other ways
  have b7 := nn (cell.fdiv 7) 9 (by decide)
  have b7' := nn (other.fdiv 7) 9 (by decide)
  obtain ⟨u, eu, fu, _⟩ := e_low hw (a := (cell.fdiv 3).fmod 200000000000000000001 - 100000000000000000000) (b := 1 + (cell.fdiv 7).fmod 9) (n := 400)
    (bd_mono (bd_sub (bd_fmod (bd_lit _) (by decide)) (bd_lit _)) (by decide +kernel)) (bd_mono (bd_add (bd_lit 1) (bd_fmod (bd_lit 9) (by decide))) (by decide +kernel)) (by decide) (by omega)
  obtain ⟨v, ev, fv, _⟩ := e_low hw (a := other.fmod 200000000000000000001 - 100000000000000000000) (b := 1 + (other.fdiv 7).fmod 9) (n := 400)
    (bd_mono (bd_sub (bd_fmod (bd_lit _) (by decide)) (bd_lit _)) (by decide +kernel)) (bd_mono (bd_add (bd_lit 1) (bd_fmod (bd_lit 9) (by decide))) (by decide +kernel)) (by decide) (by omega)
  rw [h, ev_f _ rfl]
  by_cases k0 : cell.fmod 3 = 0
  · obtain ⟨pa, ma, ea⟩ := at_mod ne other
    obtain ⟨pb, mb, eb⟩ := at_mod ne (other.fdiv (ps.length : Nat))
    obtain ⟨pc, mc, ec⟩ := at_mod ne (cell.fdiv 3)
    rcases e_cross hc hw (g _ ma) (g _ mb) (g _ mc) with e | ⟨a, b, e, fa, fb⟩
    · refine ⟨u, v, ?_, fu, fv⟩
      have k1 : ¬ cell.fmod 3 = 1 := by omega
      simp [f__law_point_by, init, ev_var, ev_brw, ev_cst, ev_bin, ev_neg, ev_not, ev_cmp, ev_and, ev_or, ev_ite, ev_call, ev_bi, ev_isi, ev_idx, ev_sl, ev_tup, ev_lst, ev_lc, evs_nil, evs_cons, evb_nil, evb_cons, evo_nil, evo_cons, ex_nil, ex_pass, ex_brk, ex_cons, ex_asg, ex_unp, ex_par, ex_aug, ex_ret, ex_retv, ex_iff, ex_for, ex_forc, forcX.eq_1, ex_whl, ex_app, ex_seti, ev_dnew, ev_dnewI, setkX.eq_1, setiX.eq_1, setiX.eq_2, ex_try, ex_hnd, phX.eq_1, try_exc, try_l, try_t, tryO_nil, tryO_one, hnd_eq, hndE.eq_1, hndE.eq_2, ex_pop, ex_clr, ex_revl, varX.eq_1, varX.eq_2, brwX.eq_1, binX.eq_1, negX.eq_1, notX.eq_1, cmpX.eq_1, boX.eq_1, andX.eq_1, andX.eq_2, orX.eq_1, orX.eq_2, iteX.eq_1, iteX.eq_2, retX.eq_1, retX.eq_2, callX.eq_1, biX.eq_1, isiX.eq_1, idxX.eq_1, slX.eq_1, tupX.eq_1, lstX.eq_1, iterX.eq_1, lcX.eq_1, consX.eq_1, consX.eq_2, consB.eq_1, oX.eq_1, thn.eq_1, thn.eq_2, thn.eq_3, asgX.eq_1, asgX.eq_2, unpX.eq_1, unpX.eq_2, parX.eq_1, augX.eq_1, retvX.eq_1, rtX.eq_1, rtX.eq_2, iffX.eq_1, iffX.eq_2, putX.eq_1, ownX.eq_1, appX.eq_1, appX.eq_2, popX.eq_1, mapX.eq_1, frz, frzAt, aft, asI, asB, asT, asTL.eq_1, asTL.eq_2, asL, fl_t, fl_l, fl_d, fl_i, fl_b, fl_n, fl_tp, fa_nil, fa_cons, fa_tp, fa_int, ks_l, ks_lz, ks_t, ks_i, ks_b, ks_n, ks_d, ks_tp, aftR, sc_l, sc_t, sc_i, sc_b, sc_n, outV, ty_ii, ty_bi, ty_ll, ty_tt, ty_bb, ty_ib, ty_lt, ty_li, ty_ls, ty_ss, ty_sl, ty_st, bindT, setMany, setL, intAt, catL, cm_lt, cm_le, cm_gt, cm_ge, cm_eqi, cm_nei, op_add, op_sub, op_mul, op_fdiv, op_mod, ix_t0, ix_t1, ix_t2, scal_tp, pow_ok, len_l, len_t, len_s, xb_abs, xb_max2, xb_min2, xb_list, xb_listT, xb_intb, xb_inti, xb_min, xb_max, it_seq, it_seqT, it_seqS, it_enum, it_zip, it_rev, k0, ix_l, op_mod ln, op_fdiv dl, ea, eb, ec, d3, e, p1, m1, d7, eu, ev, scal_tp, isnn_n]
    · refine ⟨a, b, ?_, fa, fb⟩
      simp [f__law_point_by, init, ev_var, ev_brw, ev_cst, ev_bin, ev_neg, ev_not, ev_cmp, ev_and, ev_or, ev_ite, ev_call, ev_bi, ev_isi, ev_idx, ev_sl, ev_tup, ev_lst, ev_lc, evs_nil, evs_cons, evb_nil, evb_cons, evo_nil, evo_cons, ex_nil, ex_pass, ex_brk, ex_cons, ex_asg, ex_unp, ex_par, ex_aug, ex_ret, ex_retv, ex_iff, ex_for, ex_forc, forcX.eq_1, ex_whl, ex_app, ex_seti, ev_dnew, ev_dnewI, setkX.eq_1, setiX.eq_1, setiX.eq_2, ex_try, ex_hnd, phX.eq_1, try_exc, try_l, try_t, tryO_nil, tryO_one, hnd_eq, hndE.eq_1, hndE.eq_2, ex_pop, ex_clr, ex_revl, varX.eq_1, varX.eq_2, brwX.eq_1, binX.eq_1, negX.eq_1, notX.eq_1, cmpX.eq_1, boX.eq_1, andX.eq_1, andX.eq_2, orX.eq_1, orX.eq_2, iteX.eq_1, iteX.eq_2, retX.eq_1, retX.eq_2, callX.eq_1, biX.eq_1, isiX.eq_1, idxX.eq_1, slX.eq_1, tupX.eq_1, lstX.eq_1, iterX.eq_1, lcX.eq_1, consX.eq_1, consX.eq_2, consB.eq_1, oX.eq_1, thn.eq_1, thn.eq_2, thn.eq_3, asgX.eq_1, asgX.eq_2, unpX.eq_1, unpX.eq_2, parX.eq_1, augX.eq_1, retvX.eq_1, rtX.eq_1, rtX.eq_2, iffX.eq_1, iffX.eq_2, putX.eq_1, ownX.eq_1, appX.eq_1, appX.eq_2, popX.eq_1, mapX.eq_1, frz, frzAt, aft, asI, asB, asT, asTL.eq_1, asTL.eq_2, asL, fl_t, fl_l, fl_d, fl_i, fl_b, fl_n, fl_tp, fa_nil, fa_cons, fa_tp, fa_int, ks_l, ks_lz, ks_t, ks_i, ks_b, ks_n, ks_d, ks_tp, aftR, sc_l, sc_t, sc_i, sc_b, sc_n, outV, ty_ii, ty_bi, ty_ll, ty_tt, ty_bb, ty_ib, ty_lt, ty_li, ty_ls, ty_ss, ty_sl, ty_st, bindT, setMany, setL, intAt, catL, cm_lt, cm_le, cm_gt, cm_ge, cm_eqi, cm_nei, op_add, op_sub, op_mul, op_fdiv, op_mod, ix_t0, ix_t1, ix_t2, scal_tp, pow_ok, len_l, len_t, len_s, xb_abs, xb_max2, xb_min2, xb_list, xb_listT, xb_intb, xb_inti, xb_min, xb_max, it_seq, it_seqT, it_seqS, it_enum, it_zip, it_rev, k0, ix_l, op_mod ln, op_fdiv dl, ea, eb, ec, d3, e, isnn_t]
  · by_cases k1 : cell.fmod 3 = 1
    · have b1 := nn (cell.fdiv 27) 3 (by decide)
      have b2 := nn (other.fdiv 9) 3 (by decide)
      obtain ⟨a, ea, fa, _⟩ := e_low hw (a := (cell.fdiv 3).fmod 9 - 4) (b := 1 + (cell.fdiv 27).fmod 3) (n := 400)
        (bd_mono (bd_sub (bd_fmod (bd_lit _) (by decide)) (bd_lit _)) (by decide +kernel)) (bd_mono (bd_add (bd_lit 1) (bd_fmod (bd_lit 3) (by decide))) (by decide +kernel)) (by decide) (by omega)
      obtain ⟨b, eb, fb, _⟩ := e_low hw (a := other.fmod 9 - 4) (b := 1 + (other.fdiv 9).fmod 3) (n := 400)
        (bd_mono (bd_sub (bd_fmod (bd_lit _) (by decide)) (bd_lit _)) (by decide +kernel)) (bd_mono (bd_add (bd_lit 1) (bd_fmod (bd_lit 3) (by decide))) (by decide +kernel)) (by decide) (by omega)
      refine ⟨a, b, ?_, fa, fb⟩
      simp [f__law_point_by, init, ev_var, ev_brw, ev_cst, ev_bin, ev_neg, ev_not, ev_cmp, ev_and, ev_or, ev_ite, ev_call, ev_bi, ev_isi, ev_idx, ev_sl, ev_tup, ev_lst, ev_lc, evs_nil, evs_cons, evb_nil, evb_cons, evo_nil, evo_cons, ex_nil, ex_pass, ex_brk, ex_cons, ex_asg, ex_unp, ex_par, ex_aug, ex_ret, ex_retv, ex_iff, ex_for, ex_forc, forcX.eq_1, ex_whl, ex_app, ex_seti, ev_dnew, ev_dnewI, setkX.eq_1, setiX.eq_1, setiX.eq_2, ex_try, ex_hnd, phX.eq_1, try_exc, try_l, try_t, tryO_nil, tryO_one, hnd_eq, hndE.eq_1, hndE.eq_2, ex_pop, ex_clr, ex_revl, varX.eq_1, varX.eq_2, brwX.eq_1, binX.eq_1, negX.eq_1, notX.eq_1, cmpX.eq_1, boX.eq_1, andX.eq_1, andX.eq_2, orX.eq_1, orX.eq_2, iteX.eq_1, iteX.eq_2, retX.eq_1, retX.eq_2, callX.eq_1, biX.eq_1, isiX.eq_1, idxX.eq_1, slX.eq_1, tupX.eq_1, lstX.eq_1, iterX.eq_1, lcX.eq_1, consX.eq_1, consX.eq_2, consB.eq_1, oX.eq_1, thn.eq_1, thn.eq_2, thn.eq_3, asgX.eq_1, asgX.eq_2, unpX.eq_1, unpX.eq_2, parX.eq_1, augX.eq_1, retvX.eq_1, rtX.eq_1, rtX.eq_2, iffX.eq_1, iffX.eq_2, putX.eq_1, ownX.eq_1, appX.eq_1, appX.eq_2, popX.eq_1, mapX.eq_1, frz, frzAt, aft, asI, asB, asT, asTL.eq_1, asTL.eq_2, asL, fl_t, fl_l, fl_d, fl_i, fl_b, fl_n, fl_tp, fa_nil, fa_cons, fa_tp, fa_int, ks_l, ks_lz, ks_t, ks_i, ks_b, ks_n, ks_d, ks_tp, aftR, sc_l, sc_t, sc_i, sc_b, sc_n, outV, ty_ii, ty_bi, ty_ll, ty_tt, ty_bb, ty_ib, ty_lt, ty_li, ty_ls, ty_ss, ty_sl, ty_st, bindT, setMany, setL, intAt, catL, cm_lt, cm_le, cm_gt, cm_ge, cm_eqi, cm_nei, op_add, op_sub, op_mul, op_fdiv, op_mod, ix_t0, ix_t1, ix_t2, scal_tp, pow_ok, len_l, len_t, len_s, xb_abs, xb_max2, xb_min2, xb_list, xb_listT, xb_intb, xb_inti, xb_min, xb_max, it_seq, it_seqT, it_seqS, it_enum, it_zip, it_rev, k0, k1, d3, d9, d27, ea, eb]
    · refine ⟨u, v, ?_, fu, fv⟩
      simp [f__law_point_by, init, ev_var, ev_brw, ev_cst, ev_bin, ev_neg, ev_not, ev_cmp, ev_and, ev_or, ev_ite, ev_call, ev_bi, ev_isi, ev_idx, ev_sl, ev_tup, ev_lst, ev_lc, evs_nil, evs_cons, evb_nil, evb_cons, evo_nil, evo_cons, ex_nil, ex_pass, ex_brk, ex_cons, ex_asg, ex_unp, ex_par, ex_aug, ex_ret, ex_retv, ex_iff, ex_for, ex_forc, forcX.eq_1, ex_whl, ex_app, ex_seti, ev_dnew, ev_dnewI, setkX.eq_1, setiX.eq_1, setiX.eq_2, ex_try, ex_hnd, phX.eq_1, try_exc, try_l, try_t, tryO_nil, tryO_one, hnd_eq, hndE.eq_1, hndE.eq_2, ex_pop, ex_clr, ex_revl, varX.eq_1, varX.eq_2, brwX.eq_1, binX.eq_1, negX.eq_1, notX.eq_1, cmpX.eq_1, boX.eq_1, andX.eq_1, andX.eq_2, orX.eq_1, orX.eq_2, iteX.eq_1, iteX.eq_2, retX.eq_1, retX.eq_2, callX.eq_1, biX.eq_1, isiX.eq_1, idxX.eq_1, slX.eq_1, tupX.eq_1, lstX.eq_1, iterX.eq_1, lcX.eq_1, consX.eq_1, consX.eq_2, consB.eq_1, oX.eq_1, thn.eq_1, thn.eq_2, thn.eq_3, asgX.eq_1, asgX.eq_2, unpX.eq_1, unpX.eq_2, parX.eq_1, augX.eq_1, retvX.eq_1, rtX.eq_1, rtX.eq_2, iffX.eq_1, iffX.eq_2, putX.eq_1, ownX.eq_1, appX.eq_1, appX.eq_2, popX.eq_1, mapX.eq_1, frz, frzAt, aft, asI, asB, asT, asTL.eq_1, asTL.eq_2, asL, fl_t, fl_l, fl_d, fl_i, fl_b, fl_n, fl_tp, fa_nil, fa_cons, fa_tp, fa_int, ks_l, ks_lz, ks_t, ks_i, ks_b, ks_n, ks_d, ks_tp, aftR, sc_l, sc_t, sc_i, sc_b, sc_n, outV, ty_ii, ty_bi, ty_ll, ty_tt, ty_bb, ty_ib, ty_lt, ty_li, ty_ls, ty_ss, ty_sl, ty_st, bindT, setMany, setL, intAt, catL, cm_lt, cm_le, cm_gt, cm_ge, cm_eqi, cm_nei, op_add, op_sub, op_mul, op_fdiv, op_mod, ix_t0, ix_t1, ix_t2, scal_tp, pow_ok, len_l, len_t, len_s, xb_abs, xb_max2, xb_min2, xb_list, xb_listT, xb_intb, xb_inti, xb_min, xb_max, it_seq, it_seqT, it_seqS, it_enum, it_zip, it_rev, k0, k1, d3, d7, p1, m1, eu, ev, scal_tp]
end K07

set_option Elab.async false
set_option linter.all false
set_option maxRecDepth 100000
/-! G33: fractions as numbers. -/
namespace K07
open Pv
open PySem (PyData Str)
/-- a fraction in lowest terms -/
def N (x : Rat) : P := (x.num, (x.den : Int))
theorem fr_N {n : Nat} {p : P} (h : fr n p) : p = N (Rat.divInt p.1 p.2) := by
  obtain ⟨a, b⟩ := p
  obtain ⟨_, _, pos, co⟩ := h
  simp only at pos co
  obtain ⟨d, rfl⟩ := Int.eq_ofNat_of_zero_le (Int.le_of_lt pos)
  have d0 : d ≠ 0 := by omega
  have c : a.natAbs.Coprime d := by
    unfold Nat.Coprime
    simpa using co
  have e := Rat.mk_eq_divInt (num := a) (den := d) (nz := d0) (c := c)
  show (a, (d : Int)) = N (Rat.divInt a (d : Int))
  rw [← e]
  rfl
theorem N_self (x : Rat) : Rat.divInt (N x).1 (N x).2 = x := Rat.num_divInt_den x
theorem N_inj {x y : Rat} (h : N x = N y) : x = y := by rw [← N_self x, ← N_self y, h]
theorem N_ne (x : Rat) : (N x).2 ≠ 0 := by
  have := x.den_nz
  show (x.den : Int) ≠ 0
  omega
/-- of these sizes -/
def sz (n : Nat) (x : Rat) : Prop := fr n (N x)
theorem N_of {n : Nat} {p : P} (h : fr n p) : ∃ x, p = N x ∧ sz n x := ⟨_, fr_N h, by unfold sz; rw [← fr_N h]; exact h⟩
theorem sz_mono {n m : Nat} {x : Rat} (h : sz n x) (k : n ≤ m) : sz m x := ⟨bd_mono h.a k, bd_mono h.b k, h.pos, h.co⟩
theorem low_N {Φ : Ph} (h : Impl Φ "_law_low" f__law_low) {a b : Int} {n : Nat} (ha : bd n a) (hb : bd n b) (hn : n ≤ 8000) (h0 : b ≠ 0) : Φ "_law_low" [.int a, .int b] = some (tp (N (Rat.divInt a b)), false) ∧ sz n (Rat.divInt a b) := by
  obtain ⟨p, e, f, c⟩ := e_low h ha hb hn h0
  have ep : Rat.divInt p.1 p.2 = Rat.divInt a b := (Rat.divInt_eq_divInt_iff (by have := f.pos; omega) h0).mpr (by rw [c, Int.mul_comm])
  have e2 := fr_N f
  rw [ep] at e2
  exact ⟨by rw [e, e2], by unfold sz; rw [← e2]; exact f⟩
theorem add_N (x y : Rat) : Rat.divInt ((N x).1 * (N y).2 + (N y).1 * (N x).2) ((N x).2 * (N y).2) = x + y := by
  rw [← Rat.divInt_add_divInt _ _ (N_ne x) (N_ne y), N_self, N_self]
theorem mul_N (x y : Rat) : Rat.divInt ((N x).1 * (N y).1) ((N x).2 * (N y).2) = x * y := by
  rw [← Rat.divInt_mul_divInt, N_self, N_self]
theorem sub_N (x y : Rat) : Rat.divInt ((N x).1 * (N y).2 - (N y).1 * (N x).2) ((N x).2 * (N y).2) = x - y := by
  have e : (N x).1 * (N y).2 - (N y).1 * (N x).2 = (N x).1 * (N y).2 + (-(N y).1) * (N x).2 := by grind
  rw [e, ← Rat.divInt_add_divInt _ _ (N_ne x) (N_ne y), N_self, ← Rat.neg_divInt, N_self, Rat.sub_eq_add_neg]
theorem neg_N (x : Rat) : ((-(N x).1, (N x).2) : P) = N (-x) := by
  show (-x.num, (x.den : Int)) = ((-x).num, ((-x).den : Int))
  rfl
theorem int_N (i : Int) : ((i, 1) : P) = N (i : Rat) := rfl
theorem sz_int {n : Nat} {i : Int} (h : bd n i) (hn : 1 ≤ n) : sz n (i : Rat) := ⟨h, bd_mono (bd_of (show (1 : Int).natAbs < 2 ^ 1 by decide)) hn, show (0 : Int) < 1 by decide, Nat.gcd_one_right _⟩
theorem sz_neg {n : Nat} {x : Rat} (h : sz n x) : sz n (-x) := by
  have e := neg_N x
  unfold sz
  rw [← e]
  exact ⟨bd_neg h.a, h.b, h.pos, by show Nat.gcd (-(N x).1).natAbs _ = 1; rw [Int.natAbs_neg]; exact h.co⟩
theorem lt_N (x y : Rat) : (N x).1 * (N y).2 < (N y).1 * (N x).2 ↔ x < y := (Rat.lt_iff x y).symm
end K07

set_option Elab.async false
set_option linter.all false
set_option maxRecDepth 100000
/-! Fn_k33: the codes of the defs. -/
namespace K33
open PySem Pv
def f__law_cell_at : Fn := ⟨2, 2, (.cons (.iff [] (.cmp .lt (.brw 1) (.bi .len (.cons (.brw 0) .nil))) (.cons (.ret [] (.idx (.brw 0) (.brw 1))) .nil) .nil) (.cons (.ret [] (.cst (.int 0))) .nil))⟩
def f__law_stirred : Fn := ⟨1, 5, (.cons (.asg 1 [] (.cst (.int 618970019642690137449562111))) (.cons (.asg 2 [] (.lst .nil)) (.cons (.for_ (.nm 3) .range [] (.cons (.bi .max2 (.cons (.bi .len (.cons (.brw 0) .nil)) (.cons (.cst (.int 7)) .nil))) .nil) (.cons (.asg 4 [] (.bin .mod (.call "_law_cell_at" (.cons (.var 0) (.cons (.var 3) .nil))) (.brw 1))) (.cons (.asg 4 [] (.bin .mod (.bin .add (.bin .add (.bin .add (.bin .mul (.brw 4) (.cst (.int 48271))) (.bin .mul (.bin .mul (.brw 3) (.brw 3)) (.cst (.int 7919)))) (.brw 3)) (.cst (.int 1))) (.brw 1))) (.cons (.app 2 [] (.bin .mod (.bin .mul (.bin .mod (.bin .mul (.brw 4) (.cst (.int 413338662677311947023157))) (.brw 1)) (.cst (.int 282475249))) (.brw 1))) .nil)))) (.cons (.retv 2) .nil))))⟩
def f__law_low : Fn := ⟨2, 4, (.cons (.asg 2 [] (.bi .abs (.cons (.brw 0) .nil))) (.cons (.asg 3 [] (.bi .abs (.cons (.brw 1) .nil))) (.cons (.whl (.cmp .gt (.brw 3) (.cst (.int 0))) (.cons (.par 2 3 (.cons (.var 3) (.cons (.bin .mod (.brw 2) (.brw 3)) .nil))) .nil)) (.cons (.iff [] (.cmp .lt (.brw 1) (.cst (.int 0))) (.cons (.asg 2 [] (.neg (.brw 2))) .nil) .nil) (.cons (.ret [] (.tup (.cons (.bin .fdiv (.brw 0) (.brw 2)) (.cons (.bin .fdiv (.brw 1) (.brw 2)) .nil)))) .nil)))))⟩
def f__law_height_by : Fn := ⟨4, 4, (.cons (.iff [] (.cmp .eq (.bin .mod (.brw 0) (.cst (.int 4))) (.cst (.int 1))) (.cons (.ret [] (.tup (.cons (.bin .sub (.bin .mod (.brw 3) (.cst (.int 3))) (.bin .mul (.bin .add (.bin .add (.bin .mul (.brw 1) (.brw 1)) (.bin .mul (.brw 1) (.brw 2))) (.bin .mul (.brw 2) (.brw 2))) (.bin .add (.cst (.int 1)) (.bin .mod (.bin .fdiv (.brw 0) (.cst (.int 36))) (.cst (.int 5)))))) (.cons (.cst (.int 1)) .nil)))) .nil) .nil) (.cons (.iff [] (.cmp .eq (.bin .mod (.brw 0) (.cst (.int 4))) (.cst (.int 3))) (.cons (.ret [] (.tup (.cons (.bin .mod (.brw 3) (.cst (.int 3))) (.cons (.cst (.int 1)) .nil)))) .nil) .nil) (.cons (.iff [] (.cmp .eq (.bin .mod (.bin .fdiv (.brw 0) (.cst (.int 36))) (.cst (.int 2))) (.cst (.int 1))) (.cons (.ret [] (.call "_law_low" (.cons (.bin .sub (.bin .mod (.brw 3) (.bin .add (.bin .mul (.cst (.int 2)) (.bin .pow (.cst (.int 10)) (.cst (.int 20)))) (.cst (.int 1)))) (.bin .pow (.cst (.int 10)) (.cst (.int 20)))) (.cons (.bin .add (.cst (.int 1)) (.bin .mod (.bin .fdiv (.brw 3) (.cst (.int 11))) (.cst (.int 12)))) .nil)))) .nil) .nil) (.cons (.ret [] (.call "_law_low" (.cons (.bin .sub (.bin .mod (.brw 3) (.cst (.int 13))) (.cst (.int 6))) (.cons (.bin .add (.cst (.int 1)) (.bin .mod (.bin .fdiv (.brw 3) (.cst (.int 13))) (.cst (.int 4)))) .nil)))) .nil))))⟩
def f__law_roof_by : Fn := ⟨4, 11, (.cons (.asg 4 [] .dnew) (.cons (.for_ (.nm 5) .seq [] (.cons (.var 1) .nil) (.cons (.asg 6 [] (.bin .mod (.brw 5) (.brw 3))) (.cons (.asg 7 [] (.bin .mod (.bin .fdiv (.brw 5) (.brw 3)) (.brw 3))) (.cons (.iff [] (.cmp .eq (.bin .mod (.brw 0) (.cst (.int 4))) (.cst (.int 2))) (.cons (.asg 7 [] (.bin .mul (.brw 6) (.bin .mod (.bin .fdiv (.brw 0) (.cst (.int 4))) (.cst (.int 2))))) .nil) .nil) (.cons (.asg 8 [] (.call "_law_height_by" (.cons (.var 0) (.cons (.var 6) (.cons (.var 7) (.cons (.bin .fdiv (.brw 5) (.bin .mul (.brw 3) (.brw 3))) .nil)))))) (.cons (.iff [] (.cmp .inn (.tup (.cons (.var 6) (.cons (.var 7) .nil))) (.brw 4)) (.cons (.asg 9 [] (.idx (.brw 4) (.tup (.cons (.var 6) (.cons (.var 7) .nil))))) (.cons (.iff [] (.cmp .gt (.bin .mul (.idx (.brw 8) (.cst (.int 0))) (.idx (.brw 9) (.cst (.int 1)))) (.bin .mul (.idx (.brw 9) (.cst (.int 0))) (.idx (.brw 8) (.cst (.int 1))))) (.cons (.seti 4 [] (.tup (.cons (.var 6) (.cons (.var 7) .nil))) (.var 8)) .nil) .nil) .nil)) (.cons (.iff [] (.cmp .lt (.bi .len (.cons (.brw 4) .nil)) (.brw 2)) (.cons (.seti 4 [] (.tup (.cons (.var 6) (.cons (.var 7) .nil))) (.var 8)) .nil) .nil) .nil)) .nil)))))) (.cons (.iff [] (.cmp .eq (.brw 4) .dnew) (.cons (.seti 4 [] (.tup (.cons (.bin .mod (.brw 0) (.brw 3)) (.cons (.cst (.int 0)) .nil))) (.tup (.cons (.cst (.int 0)) (.cons (.cst (.int 1)) .nil)))) .nil) .nil) (.cons (.ret [] (.lc (.nm 10) .seq (.cons (.bi .sorted (.cons (.brw 4) .nil)) .nil) (.cst (.bool true)) (.tup (.cons (.idx (.brw 10) (.cst (.int 0))) (.cons (.idx (.brw 10) (.cst (.int 1))) (.cons (.idx (.brw 4) (.brw 10)) .nil)))))) .nil))))⟩
def f__law_crossing : Fn := ⟨3, 10, (.cons (.asg 3 [] (.tup (.cons (.bin .sub (.idx (.brw 0) (.cst (.int 0))) (.idx (.brw 1) (.cst (.int 0)))) (.cons (.bin .sub (.idx (.brw 0) (.cst (.int 1))) (.idx (.brw 1) (.cst (.int 1)))) (.cons (.bin .sub (.bin .mul (.idx (.idx (.brw 1) (.cst (.int 2))) (.cst (.int 0))) (.idx (.idx (.brw 0) (.cst (.int 2))) (.cst (.int 1)))) (.bin .mul (.idx (.idx (.brw 0) (.cst (.int 2))) (.cst (.int 0))) (.idx (.idx (.brw 1) (.cst (.int 2))) (.cst (.int 1))))) .nil))))) (.cons (.asg 4 [] (.tup (.cons (.bin .sub (.idx (.brw 0) (.cst (.int 0))) (.idx (.brw 2) (.cst (.int 0)))) (.cons (.bin .sub (.idx (.brw 0) (.cst (.int 1))) (.idx (.brw 2) (.cst (.int 1)))) (.cons (.bin .sub (.bin .mul (.idx (.idx (.brw 2) (.cst (.int 2))) (.cst (.int 0))) (.idx (.idx (.brw 0) (.cst (.int 2))) (.cst (.int 1)))) (.bin .mul (.idx (.idx (.brw 0) (.cst (.int 2))) (.cst (.int 0))) (.idx (.idx (.brw 2) (.cst (.int 2))) (.cst (.int 1))))) .nil))))) (.cons (.asg 5 [] (.bin .sub (.bin .mul (.idx (.brw 3) (.cst (.int 0))) (.idx (.brw 4) (.cst (.int 1)))) (.bin .mul (.idx (.brw 3) (.cst (.int 1))) (.idx (.brw 4) (.cst (.int 0)))))) (.cons (.iff [] (.cmp .eq (.brw 5) (.cst (.int 0))) (.cons (.ret [] (.cst .none)) .nil) .nil) (.cons (.asg 6 [] (.bin .mul (.idx (.idx (.brw 1) (.cst (.int 2))) (.cst (.int 1))) (.idx (.idx (.brw 0) (.cst (.int 2))) (.cst (.int 1))))) (.cons (.asg 7 [] (.bin .mul (.idx (.idx (.brw 2) (.cst (.int 2))) (.cst (.int 1))) (.idx (.idx (.brw 0) (.cst (.int 2))) (.cst (.int 1))))) (.cons (.asg 8 [] (.bin .sub (.bin .mul (.bin .mul (.idx (.brw 3) (.cst (.int 2))) (.idx (.brw 4) (.cst (.int 1)))) (.brw 7)) (.bin .mul (.bin .mul (.idx (.brw 4) (.cst (.int 2))) (.idx (.brw 3) (.cst (.int 1)))) (.brw 6)))) (.cons (.asg 9 [] (.bin .sub (.bin .mul (.bin .mul (.idx (.brw 4) (.cst (.int 2))) (.idx (.brw 3) (.cst (.int 0)))) (.brw 6)) (.bin .mul (.bin .mul (.idx (.brw 3) (.cst (.int 2))) (.idx (.brw 4) (.cst (.int 0)))) (.brw 7)))) (.cons (.ret [] (.tup (.cons (.call "_law_low" (.cons (.var 8) (.cons (.bin .mul (.bin .mul (.brw 5) (.brw 6)) (.brw 7)) .nil))) (.cons (.call "_law_low" (.cons (.var 9) (.cons (.bin .mul (.bin .mul (.brw 5) (.brw 6)) (.brw 7)) .nil))) .nil)))) .nil)))))))))⟩
def f__law_point_by : Fn := ⟨3, 6, (.cons (.iff [] (.cmp .eq (.bin .mod (.brw 1) (.cst (.int 3))) (.cst (.int 0))) (.cons (.asg 4 [] (.bi .len (.cons (.brw 0) .nil))) (.cons (.asg 5 [] (.call "_law_crossing" (.cons (.idx (.brw 0) (.bin .mod (.brw 2) (.brw 4))) (.cons (.idx (.brw 0) (.bin .mod (.bin .fdiv (.brw 2) (.brw 4)) (.brw 4))) (.cons (.idx (.brw 0) (.bin .mod (.bin .fdiv (.brw 1) (.cst (.int 3))) (.brw 4))) .nil))))) (.cons (.iff [] (.cmp .isnn (.brw 5) (.cst .none)) (.cons (.retv 5) .nil) .nil) .nil))) .nil) (.cons (.iff [] (.cmp .eq (.bin .mod (.brw 1) (.cst (.int 3))) (.cst (.int 1))) (.cons (.ret [] (.tup (.cons (.call "_law_low" (.cons (.bin .sub (.bin .mod (.bin .fdiv (.brw 1) (.cst (.int 3))) (.cst (.int 9))) (.cst (.int 4))) (.cons (.bin .add (.cst (.int 1)) (.bin .mod (.bin .fdiv (.brw 1) (.cst (.int 27))) (.cst (.int 3)))) .nil))) (.cons (.call "_law_low" (.cons (.bin .sub (.bin .mod (.brw 2) (.cst (.int 9))) (.cst (.int 4))) (.cons (.bin .add (.cst (.int 1)) (.bin .mod (.bin .fdiv (.brw 2) (.cst (.int 9))) (.cst (.int 3)))) .nil))) .nil)))) .nil) .nil) (.cons (.asg 3 [] (.call "_law_low" (.cons (.bin .sub (.bin .mod (.bin .fdiv (.brw 1) (.cst (.int 3))) (.bin .add (.bin .mul (.cst (.int 2)) (.bin .pow (.cst (.int 10)) (.cst (.int 20)))) (.cst (.int 1)))) (.bin .pow (.cst (.int 10)) (.cst (.int 20)))) (.cons (.bin .add (.cst (.int 1)) (.bin .mod (.bin .fdiv (.brw 1) (.cst (.int 7))) (.cst (.int 9)))) .nil)))) (.cons (.ret [] (.tup (.cons (.var 3) (.cons (.call "_law_low" (.cons (.bin .sub (.bin .mod (.brw 2) (.bin .add (.bin .mul (.cst (.int 2)) (.bin .pow (.cst (.int 10)) (.cst (.int 20)))) (.cst (.int 1)))) (.bin .pow (.cst (.int 10)) (.cst (.int 20)))) (.cons (.bin .add (.cst (.int 1)) (.bin .mod (.bin .fdiv (.brw 2) (.cst (.int 7))) (.cst (.int 9)))) .nil))) .nil)))) .nil))))⟩
def f_divisor : Fn := ⟨2, 3, (.cons (.asg 0 [] (.bi .abs (.cons (.brw 0) .nil))) (.cons (.asg 1 [] (.bi .abs (.cons (.brw 1) .nil))) (.cons (.whl (.cmp .ne (.brw 1) (.cst (.int 0))) (.cons (.asg 2 [] (.bin .mod (.brw 0) (.brw 1))) (.cons (.asg 0 [] (.var 1)) (.cons (.asg 1 [] (.var 2)) .nil)))) (.cons (.retv 0) .nil))))⟩
def f_fraction : Fn := ⟨2, 3, (.cons (.iff [] (.cmp .eq (.brw 1) (.cst (.int 0))) (.cons .never .nil) .nil) (.cons (.asg 2 [] (.call "divisor" (.cons (.var 0) (.cons (.var 1) .nil)))) (.cons (.iff [] (.cmp .lt (.brw 1) (.cst (.int 0))) (.cons (.asg 2 [] (.neg (.brw 2))) .nil) .nil) (.cons (.ret [] (.tup (.cons (.bin .fdiv (.brw 0) (.brw 2)) (.cons (.bin .fdiv (.brw 1) (.brw 2)) .nil)))) .nil))))⟩
def f_plus : Fn := ⟨2, 2, (.cons (.ret [] (.call "fraction" (.cons (.bin .add (.bin .mul (.idx (.brw 0) (.cst (.int 0))) (.idx (.brw 1) (.cst (.int 1)))) (.bin .mul (.idx (.brw 1) (.cst (.int 0))) (.idx (.brw 0) (.cst (.int 1))))) (.cons (.bin .mul (.idx (.brw 0) (.cst (.int 1))) (.idx (.brw 1) (.cst (.int 1)))) .nil)))) .nil)⟩
def f_raised : Fn := ⟨2, 3, (.cons (.ret [] (.lc (.nm 2) .seq (.cons (.var 0) .nil) (.cst (.bool true)) (.tup (.cons (.idx (.brw 2) (.cst (.int 0))) (.cons (.idx (.brw 2) (.cst (.int 1))) (.cons (.call "plus" (.cons (.idx (.brw 2) (.cst (.int 2))) (.cons (.var 1) .nil))) .nil)))))) .nil)⟩
def f_times : Fn := ⟨2, 2, (.cons (.ret [] (.call "fraction" (.cons (.bin .mul (.idx (.brw 0) (.cst (.int 0))) (.idx (.brw 1) (.cst (.int 0)))) (.cons (.bin .mul (.idx (.brw 0) (.cst (.int 1))) (.idx (.brw 1) (.cst (.int 1)))) .nil)))) .nil)⟩
def f_minus : Fn := ⟨2, 2, (.cons (.ret [] (.call "fraction" (.cons (.bin .sub (.bin .mul (.idx (.brw 0) (.cst (.int 0))) (.idx (.brw 1) (.cst (.int 1)))) (.bin .mul (.idx (.brw 1) (.cst (.int 0))) (.idx (.brw 0) (.cst (.int 1))))) (.cons (.bin .mul (.idx (.brw 0) (.cst (.int 1))) (.idx (.brw 1) (.cst (.int 1)))) .nil)))) .nil)⟩
def f_moved : Fn := ⟨2, 7, (.cons (.asg 2 [] (.lst .nil)) (.cons (.for_ (.tu [3, 4, 5]) .seq [] (.cons (.var 0) .nil) (.cons (.asg 6 [] (.call "plus" (.cons (.call "times" (.cons (.call "fraction" (.cons (.var 3) (.cons (.cst (.int 1)) .nil))) (.cons (.idx (.brw 1) (.cst (.int 0))) .nil))) (.cons (.call "times" (.cons (.call "fraction" (.cons (.var 4) (.cons (.cst (.int 1)) .nil))) (.cons (.idx (.brw 1) (.cst (.int 1))) .nil))) .nil)))) (.cons (.app 2 [] (.tup (.cons (.var 3) (.cons (.var 4) (.cons (.call "minus" (.cons (.var 5) (.cons (.var 6) .nil))) .nil))))) .nil))) (.cons (.retv 2) .nil)))⟩
def f__law_sum : Fn := ⟨2, 2, (.cons (.ret [] (.call "_law_low" (.cons (.bin .add (.bin .mul (.idx (.brw 0) (.cst (.int 0))) (.idx (.brw 1) (.cst (.int 1)))) (.bin .mul (.idx (.brw 1) (.cst (.int 0))) (.idx (.brw 0) (.cst (.int 1))))) (.cons (.bin .mul (.idx (.brw 0) (.cst (.int 1))) (.idx (.brw 1) (.cst (.int 1)))) .nil)))) .nil)⟩
def f__law_whole : Fn := ⟨1, 1, (.cons (.ret [] (.and (.isi .int (.brw 0)) (.not (.isi .bool (.brw 0))))) .nil)⟩
def f__law_is_fraction : Fn := ⟨1, 1, (.cons (.iff [] (.or (.not (.isi .tuple (.brw 0))) (.or (.cmp .ne (.bi .len (.cons (.brw 0) .nil)) (.cst (.int 2))) (.or (.not (.call "_law_whole" (.cons (.idx (.brw 0) (.cst (.int 0))) .nil))) (.not (.call "_law_whole" (.cons (.idx (.brw 0) (.cst (.int 1))) .nil)))))) (.cons (.ret [] (.cst (.bool false))) .nil) .nil) (.cons (.ret [] (.and (.cmp .gt (.idx (.brw 0) (.cst (.int 1))) (.cst (.int 0))) (.cmp .eq (.call "_law_low" (.cons (.idx (.brw 0) (.cst (.int 0))) (.cons (.idx (.brw 0) (.cst (.int 1))) .nil))) (.brw 0)))) .nil))⟩
def f__law_is_plane : Fn := ⟨1, 1, (.cons (.iff [] (.or (.not (.isi .tuple (.brw 0))) (.or (.cmp .ne (.bi .len (.cons (.brw 0) .nil)) (.cst (.int 3))) (.or (.not (.call "_law_whole" (.cons (.idx (.brw 0) (.cst (.int 0))) .nil))) (.not (.call "_law_whole" (.cons (.idx (.brw 0) (.cst (.int 1))) .nil)))))) (.cons (.ret [] (.cst (.bool false))) .nil) .nil) (.cons (.ret [] (.call "_law_is_fraction" (.cons (.idx (.brw 0) (.cst (.int 2))) .nil))) .nil))⟩
def f__law_is_roof : Fn := ⟨1, 2, (.cons (.iff [] (.not (.isi .list (.brw 0))) (.cons (.ret [] (.cst (.bool false))) .nil) .nil) (.cons (.for_ (.nm 1) .seq [] (.cons (.var 0) .nil) (.cons (.iff [] (.not (.call "_law_is_plane" (.cons (.var 1) .nil))) (.cons (.ret [] (.cst (.bool false))) .nil) .nil) .nil)) (.cons (.ret [] (.cst (.bool true))) .nil)))⟩
def f__law_product : Fn := ⟨2, 2, (.cons (.ret [] (.call "_law_low" (.cons (.bin .mul (.idx (.brw 0) (.cst (.int 0))) (.idx (.brw 1) (.cst (.int 0)))) (.cons (.bin .mul (.idx (.brw 0) (.cst (.int 1))) (.idx (.brw 1) (.cst (.int 1)))) .nil)))) .nil)⟩
def f__law_moved_due : Fn := ⟨2, 6, (.cons (.asg 2 [] (.lst .nil)) (.cons (.for_ (.nm 3) .seq [] (.cons (.var 0) .nil) (.cons (.asg 4 [] (.call "_law_product" (.cons (.tup (.cons (.neg (.idx (.brw 3) (.cst (.int 0)))) (.cons (.cst (.int 1)) .nil))) (.cons (.idx (.brw 1) (.cst (.int 0))) .nil)))) (.cons (.asg 5 [] (.call "_law_sum" (.cons (.var 4) (.cons (.call "_law_product" (.cons (.tup (.cons (.neg (.idx (.brw 3) (.cst (.int 1)))) (.cons (.cst (.int 1)) .nil))) (.cons (.idx (.brw 1) (.cst (.int 1))) .nil))) .nil)))) (.cons (.app 2 [] (.tup (.cons (.idx (.brw 3) (.cst (.int 0))) (.cons (.idx (.brw 3) (.cst (.int 1))) (.cons (.call "_law_sum" (.cons (.idx (.brw 3) (.cst (.int 2))) (.cons (.var 5) .nil))) .nil))))) .nil)))) (.cons (.retv 2) .nil)))⟩
def f_plane_height : Fn := ⟨2, 3, (.cons (.asg 2 [] (.call "plus" (.cons (.call "times" (.cons (.tup (.cons (.idx (.brw 0) (.cst (.int 0))) (.cons (.cst (.int 1)) .nil))) (.cons (.idx (.brw 1) (.cst (.int 0))) .nil))) (.cons (.call "times" (.cons (.tup (.cons (.idx (.brw 0) (.cst (.int 1))) (.cons (.cst (.int 1)) .nil))) (.cons (.idx (.brw 1) (.cst (.int 1))) .nil))) .nil)))) (.cons (.ret [] (.call "plus" (.cons (.var 2) (.cons (.idx (.brw 0) (.cst (.int 2))) .nil)))) .nil))⟩
def f_less : Fn := ⟨2, 2, (.cons (.ret [] (.cmp .lt (.bin .mul (.idx (.brw 0) (.cst (.int 0))) (.idx (.brw 1) (.cst (.int 1)))) (.bin .mul (.idx (.brw 1) (.cst (.int 0))) (.idx (.brw 0) (.cst (.int 1)))))) .nil)⟩
def f_height_at : Fn := ⟨2, 5, (.cons (.asg 2 [] (.cst .none)) (.cons (.for_ (.nm 3) .seq [] (.cons (.var 0) .nil) (.cons (.asg 4 [] (.call "plane_height" (.cons (.var 3) (.cons (.var 1) .nil)))) (.cons (.iff [] (.or (.cmp .isn (.brw 2) (.cst .none)) (.call "less" (.cons (.var 2) (.cons (.var 4) .nil)))) (.cons (.asg 2 [] (.var 4)) .nil) .nil) .nil))) (.cons (.retv 2) .nil)))⟩
def f__law_back : Fn := ⟨1, 1, (.cons (.ret [] (.tup (.cons (.tup (.cons (.neg (.idx (.idx (.brw 0) (.cst (.int 0))) (.cst (.int 0)))) (.cons (.idx (.idx (.brw 0) (.cst (.int 0))) (.cst (.int 1))) .nil))) (.cons (.tup (.cons (.neg (.idx (.idx (.brw 0) (.cst (.int 1))) (.cst (.int 0)))) (.cons (.idx (.idx (.brw 0) (.cst (.int 1))) (.cst (.int 1))) .nil))) .nil)))) .nil)⟩
def f_law : Fn := ⟨1, 13, (.cons (.asg 0 [0] (.call "_law_stirred" (.cons (.var 0) .nil))) (.cons (.asg 1 [0] (.call "_law_cell_at" (.cons (.var 0) (.cons (.cst (.int 0)) .nil)))) (.cons (.asg 2 [] (.call "_law_roof_by" (.cons (.var 1) (.cons (.sl (.brw 0) (.cons (.cst (.int 6)) .nil) (.cons (.cst (.int 26)) .nil)) (.cons (.cst (.int 10)) (.cons (.idx (.tup (.cons (.cst (.int 9)) (.cons (.cst (.int 5)) (.cons (.cst (.int 3)) .nil)))) (.bin .mod (.bin .fdiv (.brw 1) (.cst (.int 12))) (.cst (.int 3)))) .nil)))))) (.cons (.asg 3 [2, 0] (.call "_law_point_by" (.cons (.var 2) (.cons (.call "_law_cell_at" (.cons (.var 0) (.cons (.cst (.int 1)) .nil))) (.cons (.call "_law_cell_at" (.cons (.var 0) (.cons (.cst (.int 2)) .nil))) .nil))))) (.cons (.asg 4 [2, 0] (.call "_law_point_by" (.cons (.var 2) (.cons (.call "_law_cell_at" (.cons (.var 0) (.cons (.cst (.int 3)) .nil))) (.cons (.call "_law_cell_at" (.cons (.var 0) (.cons (.cst (.int 4)) .nil))) .nil))))) (.cons (.asg 5 [0] (.call "_law_low" (.cons (.bin .sub (.bin .mod (.call "_law_cell_at" (.cons (.var 0) (.cons (.cst (.int 5)) .nil))) (.bin .add (.bin .mul (.cst (.int 2)) (.bin .pow (.cst (.int 10)) (.cst (.int 20)))) (.cst (.int 1)))) (.bin .pow (.cst (.int 10)) (.cst (.int 20)))) (.cons (.bin .add (.cst (.int 1)) (.bin .mod (.call "_law_cell_at" (.cons (.var 0) (.cons (.cst (.int 4)) .nil))) (.cst (.int 9)))) .nil)))) (.cons (.asg 6 [] (.bi .list (.cons (.brw 2) .nil))) (.cons (.asg 7 [6] (.call "raised" (.cons (.var 6) (.cons (.var 5) .nil)))) (.cons (.asg 8 [2] (.lc (.nm 12) .seq (.cons (.var 2) .nil) (.cst (.bool true)) (.tup (.cons (.idx (.brw 12) (.cst (.int 0))) (.cons (.idx (.brw 12) (.cst (.int 1))) (.cons (.call "_law_sum" (.cons (.idx (.brw 12) (.cst (.int 2))) (.cons (.var 5) .nil))) .nil)))))) (.cons (.iff [7] (.or (.not (.call "_law_is_roof" (.cons (.var 7) .nil))) (.cmp .ne (.brw 7) (.brw 8))) (.cons (.ret [] (.cst (.bool false))) .nil) .nil) (.cons (.asg 9 [7] (.call "raised" (.cons (.var 7) (.cons (.tup (.cons (.neg (.idx (.brw 5) (.cst (.int 0)))) (.cons (.idx (.brw 5) (.cst (.int 1))) .nil))) .nil)))) (.cons (.asg 10 [6] (.call "moved" (.cons (.var 6) (.cons (.var 3) .nil)))) (.cons (.iff [10, 2] (.or (.cmp .ne (.brw 9) (.brw 2)) (.or (.not (.call "_law_is_roof" (.cons (.var 10) .nil))) (.cmp .ne (.brw 10) (.call "_law_moved_due" (.cons (.var 2) (.cons (.var 3) .nil)))))) (.cons (.ret [] (.cst (.bool false))) .nil) .nil) (.cons (.asg 11 [] (.tup (.cons (.call "_law_sum" (.cons (.idx (.brw 4) (.cst (.int 0))) (.cons (.idx (.brw 3) (.cst (.int 0))) .nil))) (.cons (.call "_law_sum" (.cons (.idx (.brw 4) (.cst (.int 1))) (.cons (.idx (.brw 3) (.cst (.int 1))) .nil))) .nil)))) (.cons (.iff [10, 6] (.or (.cmp .ne (.call "height_at" (.cons (.var 10) (.cons (.var 11) .nil))) (.call "height_at" (.cons (.var 6) (.cons (.var 4) .nil)))) (.cmp .ne (.call "moved" (.cons (.var 10) (.cons (.call "_law_back" (.cons (.var 3) .nil)) .nil))) (.brw 2))) (.cons (.ret [] (.cst (.bool false))) .nil) .nil) (.cons (.clr 7) (.cons (.clr 10) (.cons (.ret [6, 2] (.and (.cmp .eq (.brw 6) (.brw 2)) (.cmp .eq (.call "moved" (.cons (.var 6) (.cons (.var 3) .nil))) (.call "_law_moved_due" (.cons (.var 2) (.cons (.var 3) .nil)))))) .nil))))))))))))))))))⟩
def tab : List (Str × Fn) := [("law", f_law), ("_law_back", f__law_back), ("height_at", f_height_at), ("less", f_less), ("plane_height", f_plane_height), ("_law_moved_due", f__law_moved_due), ("_law_product", f__law_product), ("_law_is_roof", f__law_is_roof), ("_law_is_plane", f__law_is_plane), ("_law_is_fraction", f__law_is_fraction), ("_law_whole", f__law_whole), ("_law_sum", f__law_sum), ("moved", f_moved), ("minus", f_minus), ("times", f_times), ("raised", f_raised), ("plus", f_plus), ("fraction", f_fraction), ("divisor", f_divisor), ("_law_point_by", f__law_point_by), ("_law_crossing", f__law_crossing), ("_law_roof_by", f__law_roof_by), ("_law_height_by", f__law_height_by), ("_law_low", f__law_low), ("_law_stirred", f__law_stirred), ("_law_cell_at", f__law_cell_at)]
theorem tab_ok : tableOk tab = true := by kernel_rfl
end K33

set_option Elab.async false
set_option linter.all false
set_option maxRecDepth 100000
/-! G33b: roofs raised, moved, their heights. -/
namespace Pv
theorem lc_m {Φ : Ph} {t : Tg} {cond elt : C} {ρ : Rho} {α : Type} {f g : α → D} {as : List α} (h : ∀ a ∈ as, ∃ ρ1 r, bindT t (f a) ρ = some ρ1 ∧ boX (ev Φ cond ρ1) = some true ∧ ev Φ elt ρ1 = some r ∧ Pv.take r = some (g a)) : lcGoX Φ t cond elt ρ (as.map f) = some (as.map g) := by
  refine lc_map (by simp) fun i d y hd hy => ?_
  obtain ⟨a, ha, rfl⟩ := map_at hd
  obtain ⟨b, hb, rfl⟩ := map_at hy
  rw [ha] at hb
  cases hb
  exact h a (List.mem_of_getElem? ha)
theorem tk_snoc {α : Type} {ps : List α} {i : Nat} {p : α} (h : ps[i]? = some p) : ps.take (i + 1) = ps.take i ++ [p] := by rw [List.take_add_one, h]; rfl
end Pv
namespace K33.Q
open Pv K07
open PySem (PyData Str)
theorem lay_pl : ∀ ps : List Pl, PyData.canLayAll0 (ps.map pl) = true
  | [] => rfl
  | p :: ps => by
    rw [List.map_cons, PyData.canLayAll0, lay_pl ps]
    rfl
theorem dep_pl : ∀ ps : List Pl, PyData.depthAll (ps.map pl) ≤ 2
  | [] => Nat.zero_le _
  | p :: ps => by
    rw [List.map_cons, PyData.depthAll]
    exact Nat.max_le.mpr ⟨Nat.le_refl _, dep_pl ps⟩
theorem eok_roof (ps : List Pl) : eqOk (.list (ps.map pl)) (.list (ps.map pl)) = true ∧ PyData.eqv (.list (ps.map pl)) (.list (ps.map pl)) = true := by
  have c : PyData.canLay0 (.list (ps.map pl)) = true := by
    simp only [PyData.canLay0]; exact lay_pl ps
  have dd : PyData.depth (.list (ps.map pl)) ≤ 64 := by
    simp only [PyData.depth]
    have := dep_pl ps
    omega
  have sh : PySem.SeqAt.shaped (.list (ps.map pl)) = true := by
    unfold PySem.SeqAt.shaped
    rw [c, decide_eq_true dd]; rfl
  exact ⟨by unfold eqOk; rw [sh]; rfl, PySem.SeqAt.eqv_refl _ c⟩
theorem eq_roof (ps : List Pl) : cm .eq (.list (ps.map pl)) (.list (ps.map pl)) = some true := by
  simp only [cm, (eok_roof ps).1, if_true, (eok_roof ps).2]
theorem ne_roof (ps : List Pl) : cm .ne (.list (ps.map pl)) (.list (ps.map pl)) = some false := by
  simp only [cm, (eok_roof ps).1, if_true, (eok_roof ps).2, Bool.not_true]
theorem eq_p (p q : P) : cm .eq (tp p) (tp q) = some (decide (p = q)) := cm_eq (α := P) (by decide) p q
theorem ne_p (p q : P) : cm .ne (tp p) (tp q) = some (!decide (p = q)) := cm_ne (α := P) (by decide) p q
theorem isT_tp (p : P) : isTy .tuple (tp p) = some true := rfl
theorem isT_pl (p : Pl) : isTy .tuple (pl p) = some true := rfl
theorem fl_pl (p : Pl) : flat (pl p) = true := rfl
theorem fa_pl (ps : List Pl) : flatAll (ps.map pl) = true := fa_map fl_pl ps
theorem sc_pl (p : Pl) : scal (pl p) = false := rfl
theorem len_tp (p : P) : biO .len [tp p] = some (.int 2, .z) := rfl
theorem len_pl (p : Pl) : biO .len [pl p] = some (.int 3, .z) := rfl
theorem e_wide (k : Int) : ∃ w : Int, idxO (.tuple [.int 9, .int 5, .int 3]) (.int (k.fmod 3)) = some (.int w) ∧ 0 < w ∧ w ≤ 9 := by
  have h1 := Int.fmod_nonneg_of_pos k (show (0 : Int) < 3 by decide)
  have h2 := Int.fmod_lt_of_pos k (show (0 : Int) < 3 by decide)
  rcases (show k.fmod 3 = 0 ∨ k.fmod 3 = 1 ∨ k.fmod 3 = 2 by omega) with e | e | e
  · rw [e]; exact ⟨9, ix_t0 _ _, by decide, by decide⟩
  · rw [e]; exact ⟨5, ix_t1 _ _ _, by decide, by decide⟩
  · rw [e]; exact ⟨3, ix_t2 _ _ _ _, by decide, by decide⟩
theorem e_whole {Φ : Ph} (h : Impl Φ "_law_whole" f__law_whole) (i : Int) : Φ "_law_whole" [.int i] = some (.bool true, false) := by
  rw [h, ev_f _ rfl]
  simp [f__law_whole, init, ev_var, ev_brw, ev_cst, ev_bin, ev_neg, ev_not, ev_cmp, ev_and, ev_or, ev_ite, ev_call, ev_bi, ev_isi, ev_idx, ev_sl, ev_tup, ev_lst, ev_lc, evs_nil, evs_cons, evb_nil, evb_cons, evo_nil, evo_cons, ex_nil, ex_pass, ex_brk, ex_cons, ex_asg, ex_unp, ex_par, ex_aug, ex_ret, ex_retv, ex_iff, ex_for, ex_forc, forcX.eq_1, ex_whl, ex_app, ex_seti, ev_dnew, ev_dnewI, setkX.eq_1, setiX.eq_1, setiX.eq_2, ex_try, ex_hnd, phX.eq_1, try_exc, try_l, try_t, tryO_nil, tryO_one, hnd_eq, hndE.eq_1, hndE.eq_2, ex_pop, ex_clr, ex_revl, varX.eq_1, varX.eq_2, brwX.eq_1, binX.eq_1, negX.eq_1, notX.eq_1, cmpX.eq_1, boX.eq_1, andX.eq_1, andX.eq_2, orX.eq_1, orX.eq_2, iteX.eq_1, iteX.eq_2, retX.eq_1, retX.eq_2, callX.eq_1, biX.eq_1, isiX.eq_1, idxX.eq_1, slX.eq_1, tupX.eq_1, lstX.eq_1, iterX.eq_1, lcX.eq_1, consX.eq_1, consX.eq_2, consB.eq_1, oX.eq_1, thn.eq_1, thn.eq_2, thn.eq_3, asgX.eq_1, asgX.eq_2, unpX.eq_1, unpX.eq_2, parX.eq_1, augX.eq_1, retvX.eq_1, rtX.eq_1, rtX.eq_2, iffX.eq_1, iffX.eq_2, putX.eq_1, ownX.eq_1, appX.eq_1, appX.eq_2, popX.eq_1, mapX.eq_1, frz, frzAt, aft, asI, asB, asT, asTL.eq_1, asTL.eq_2, asL, fl_t, fl_l, fl_d, fl_i, fl_b, fl_n, fl_tp, fa_nil, fa_cons, fa_tp, fa_int, ks_l, ks_lz, ks_t, ks_i, ks_b, ks_n, ks_d, ks_tp, aftR, sc_l, sc_t, sc_i, sc_b, sc_n, outV, ty_ii, ty_bi, ty_ll, ty_tt, ty_bb, ty_ib, ty_lt, ty_li, ty_ls, ty_ss, ty_sl, ty_st, bindT, setMany, setL, intAt, catL, cm_lt, cm_le, cm_gt, cm_ge, cm_eqi, cm_nei, op_add, op_sub, op_mul, op_fdiv, op_mod, ix_t0, ix_t1, ix_t2, scal_tp, pow_ok, len_l, len_t, len_s, xb_abs, xb_max2, xb_min2, xb_list, xb_listT, xb_intb, xb_inti, xb_min, xb_max, it_seq, it_seqT, it_seqS, it_enum, it_zip, it_rev]
/-! whole numbers to a fraction -/
def Lo (Φ : Ph) (f : Str) : Prop := ∀ (a b : Int) (n : Nat), bd n a → bd n b → n ≤ 8000 → b ≠ 0 → Φ f [.int a, .int b] = some (tp (N (Rat.divInt a b)), false) ∧ sz n (Rat.divInt a b)
theorem lo_low {Φ : Ph} (h : Impl Φ "_law_low" f__law_low) : Lo Φ "_law_low" := fun a b n ha hb hn h0 => low_N h ha hb hn h0
theorem wh_div {Φ : Ph} : ∀ (b a : Nat) (s2 : Slot), ∃ s2' : Slot, whX Φ (.cmp .ne (.brw 1) (.cst (.int 0))) (.cons (.asg 2 [] (.bin .mod (.brw 0) (.brw 1))) (.cons (.asg 0 [] (.var 1)) (.cons (.asg 1 [] (.var 2)) .nil))) [some (.int (a : Nat), false), some (.int (b : Nat), false), s2] = some (.next [some (.int (Nat.gcd a b : Nat), false), some (.int 0, false), s2']) := by
  intro b
  induction b using Nat.strongRecOn with
  | _ b ih =>
    intro a s2
    by_cases hb : b = 0
    · subst hb
      rw [Nat.gcd_zero_right]
      exact ⟨s2, wx_end (by simp [init, ev_var, ev_brw, ev_cst, ev_bin, ev_neg, ev_not, ev_cmp, ev_and, ev_or, ev_ite, ev_call, ev_bi, ev_isi, ev_idx, ev_sl, ev_tup, ev_lst, ev_lc, evs_nil, evs_cons, evb_nil, evb_cons, evo_nil, evo_cons, ex_nil, ex_pass, ex_brk, ex_cons, ex_asg, ex_unp, ex_par, ex_aug, ex_ret, ex_retv, ex_iff, ex_for, ex_forc, forcX.eq_1, ex_whl, ex_app, ex_seti, ev_dnew, ev_dnewI, setkX.eq_1, setiX.eq_1, setiX.eq_2, ex_try, ex_hnd, phX.eq_1, try_exc, try_l, try_t, tryO_nil, tryO_one, hnd_eq, hndE.eq_1, hndE.eq_2, ex_pop, ex_clr, ex_revl, varX.eq_1, varX.eq_2, brwX.eq_1, binX.eq_1, negX.eq_1, notX.eq_1, cmpX.eq_1, boX.eq_1, andX.eq_1, andX.eq_2, orX.eq_1, orX.eq_2, iteX.eq_1, iteX.eq_2, retX.eq_1, retX.eq_2, callX.eq_1, biX.eq_1, isiX.eq_1, idxX.eq_1, slX.eq_1, tupX.eq_1, lstX.eq_1, iterX.eq_1, lcX.eq_1, consX.eq_1, consX.eq_2, consB.eq_1, oX.eq_1, thn.eq_1, thn.eq_2, thn.eq_3, asgX.eq_1, asgX.eq_2, unpX.eq_1, unpX.eq_2, parX.eq_1, augX.eq_1, retvX.eq_1, rtX.eq_1, rtX.eq_2, iffX.eq_1, iffX.eq_2, putX.eq_1, ownX.eq_1, appX.eq_1, appX.eq_2, popX.eq_1, mapX.eq_1, frz, frzAt, aft, asI, asB, asT, asTL.eq_1, asTL.eq_2, asL, fl_t, fl_l, fl_d, fl_i, fl_b, fl_n, fl_tp, fa_nil, fa_cons, fa_tp, fa_int, ks_l, ks_lz, ks_t, ks_i, ks_b, ks_n, ks_d, ks_tp, aftR, sc_l, sc_t, sc_i, sc_b, sc_n, outV, ty_ii, ty_bi, ty_ll, ty_tt, ty_bb, ty_ib, ty_lt, ty_li, ty_ls, ty_ss, ty_sl, ty_st, bindT, setMany, setL, intAt, catL, cm_lt, cm_le, cm_gt, cm_ge, cm_eqi, cm_nei, op_add, op_sub, op_mul, op_fdiv, op_mod, ix_t0, ix_t1, ix_t2, scal_tp, pow_ok, len_l, len_t, len_s, xb_abs, xb_max2, xb_min2, xb_list, xb_listT, xb_intb, xb_inti, xb_min, xb_max, it_seq, it_seqT, it_seqS, it_enum, it_zip, it_rev])⟩
    · have hlt := Nat.mod_lt a (Nat.pos_of_ne_zero hb)
      have e : Nat.gcd a b = Nat.gcd b (a % b) := by rw [Nat.gcd_comm, Nat.gcd_rec, Nat.gcd_comm]
      rw [e]
      have md : ((a : Int)).fmod (b : Int) = ((a % b : Nat) : Int) := by
        rw [Int.fmod_eq_emod_of_nonneg _ (by omega)]
        exact (Int.natCast_emod a b).symm
      have nz : (b : Int) ≠ 0 := by omega
      obtain ⟨s2', e2⟩ := ih (a % b) hlt b (some (.int ((a % b : Nat) : Int), false))
      refine ⟨s2', wx_turn ?_ ?_ e2⟩
      · simp [init, ev_var, ev_brw, ev_cst, ev_bin, ev_neg, ev_not, ev_cmp, ev_and, ev_or, ev_ite, ev_call, ev_bi, ev_isi, ev_idx, ev_sl, ev_tup, ev_lst, ev_lc, evs_nil, evs_cons, evb_nil, evb_cons, evo_nil, evo_cons, ex_nil, ex_pass, ex_brk, ex_cons, ex_asg, ex_unp, ex_par, ex_aug, ex_ret, ex_retv, ex_iff, ex_for, ex_forc, forcX.eq_1, ex_whl, ex_app, ex_seti, ev_dnew, ev_dnewI, setkX.eq_1, setiX.eq_1, setiX.eq_2, ex_try, ex_hnd, phX.eq_1, try_exc, try_l, try_t, tryO_nil, tryO_one, hnd_eq, hndE.eq_1, hndE.eq_2, ex_pop, ex_clr, ex_revl, varX.eq_1, varX.eq_2, brwX.eq_1, binX.eq_1, negX.eq_1, notX.eq_1, cmpX.eq_1, boX.eq_1, andX.eq_1, andX.eq_2, orX.eq_1, orX.eq_2, iteX.eq_1, iteX.eq_2, retX.eq_1, retX.eq_2, callX.eq_1, biX.eq_1, isiX.eq_1, idxX.eq_1, slX.eq_1, tupX.eq_1, lstX.eq_1, iterX.eq_1, lcX.eq_1, consX.eq_1, consX.eq_2, consB.eq_1, oX.eq_1, thn.eq_1, thn.eq_2, thn.eq_3, asgX.eq_1, asgX.eq_2, unpX.eq_1, unpX.eq_2, parX.eq_1, augX.eq_1, retvX.eq_1, rtX.eq_1, rtX.eq_2, iffX.eq_1, iffX.eq_2, putX.eq_1, ownX.eq_1, appX.eq_1, appX.eq_2, popX.eq_1, mapX.eq_1, frz, frzAt, aft, asI, asB, asT, asTL.eq_1, asTL.eq_2, asL, fl_t, fl_l, fl_d, fl_i, fl_b, fl_n, fl_tp, fa_nil, fa_cons, fa_tp, fa_int, ks_l, ks_lz, ks_t, ks_i, ks_b, ks_n, ks_d, ks_tp, aftR, sc_l, sc_t, sc_i, sc_b, sc_n, outV, ty_ii, ty_bi, ty_ll, ty_tt, ty_bb, ty_ib, ty_lt, ty_li, ty_ls, ty_ss, ty_sl, ty_st, bindT, setMany, setL, intAt, catL, cm_lt, cm_le, cm_gt, cm_ge, cm_eqi, cm_nei, op_add, op_sub, op_mul, op_fdiv, op_mod, ix_t0, ix_t1, ix_t2, scal_tp, pow_ok, len_l, len_t, len_s, xb_abs, xb_max2, xb_min2, xb_list, xb_listT, xb_intb, xb_inti, xb_min, xb_max, it_seq, it_seqT, it_seqS, it_enum, it_zip, it_rev, hb]
      · simp only [ex_cons, ex_asg, frz, ev_var, ev_bin, ev_brw, List.getElem?_cons_succ, List.getElem?_cons_zero, varX.eq_1, brwX.eq_1, binX.eq_1, op_mod nz, md, asgX.eq_1, aftR, ks_i, if_true, List.set_cons_succ, List.set_cons_zero, thn.eq_1, ex_nil]
theorem e_div {Φ : Ph} (h : Impl Φ "divisor" f_divisor) (a b : Int) : Φ "divisor" [.int a, .int b] = some (.int (Nat.gcd a.natAbs b.natAbs : Nat), false) := by
  obtain ⟨s2', w⟩ := wh_div (Φ := Φ) b.natAbs a.natAbs none
  rw [h, ev_f _ rfl]
  simp [f_divisor, init, ev_var, ev_brw, ev_cst, ev_bin, ev_neg, ev_not, ev_cmp, ev_and, ev_or, ev_ite, ev_call, ev_bi, ev_isi, ev_idx, ev_sl, ev_tup, ev_lst, ev_lc, evs_nil, evs_cons, evb_nil, evb_cons, evo_nil, evo_cons, ex_nil, ex_pass, ex_brk, ex_cons, ex_asg, ex_unp, ex_par, ex_aug, ex_ret, ex_retv, ex_iff, ex_for, ex_forc, forcX.eq_1, ex_whl, ex_app, ex_seti, ev_dnew, ev_dnewI, setkX.eq_1, setiX.eq_1, setiX.eq_2, ex_try, ex_hnd, phX.eq_1, try_exc, try_l, try_t, tryO_nil, tryO_one, hnd_eq, hndE.eq_1, hndE.eq_2, ex_pop, ex_clr, ex_revl, varX.eq_1, varX.eq_2, brwX.eq_1, binX.eq_1, negX.eq_1, notX.eq_1, cmpX.eq_1, boX.eq_1, andX.eq_1, andX.eq_2, orX.eq_1, orX.eq_2, iteX.eq_1, iteX.eq_2, retX.eq_1, retX.eq_2, callX.eq_1, biX.eq_1, isiX.eq_1, idxX.eq_1, slX.eq_1, tupX.eq_1, lstX.eq_1, iterX.eq_1, lcX.eq_1, consX.eq_1, consX.eq_2, consB.eq_1, oX.eq_1, thn.eq_1, thn.eq_2, thn.eq_3, asgX.eq_1, asgX.eq_2, unpX.eq_1, unpX.eq_2, parX.eq_1, augX.eq_1, retvX.eq_1, rtX.eq_1, rtX.eq_2, iffX.eq_1, iffX.eq_2, putX.eq_1, ownX.eq_1, appX.eq_1, appX.eq_2, popX.eq_1, mapX.eq_1, frz, frzAt, aft, asI, asB, asT, asTL.eq_1, asTL.eq_2, asL, fl_t, fl_l, fl_d, fl_i, fl_b, fl_n, fl_tp, fa_nil, fa_cons, fa_tp, fa_int, ks_l, ks_lz, ks_t, ks_i, ks_b, ks_n, ks_d, ks_tp, aftR, sc_l, sc_t, sc_i, sc_b, sc_n, outV, ty_ii, ty_bi, ty_ll, ty_tt, ty_bb, ty_ib, ty_lt, ty_li, ty_ls, ty_ss, ty_sl, ty_st, bindT, setMany, setL, intAt, catL, cm_lt, cm_le, cm_gt, cm_ge, cm_eqi, cm_nei, op_add, op_sub, op_mul, op_fdiv, op_mod, ix_t0, ix_t1, ix_t2, scal_tp, pow_ok, len_l, len_t, len_s, xb_abs, xb_max2, xb_min2, xb_list, xb_listT, xb_intb, xb_inti, xb_min, xb_max, it_seq, it_seqT, it_seqS, it_enum, it_zip, it_rev, w]
theorem lo_fraction {Φ : Ph} (h : Impl Φ "fraction" f_fraction) (hd : Impl Φ "divisor" f_divisor) : Lo Φ "fraction" := fun a b n ha hb hn h0 => by
  have key : ∃ p : P, Φ "fraction" [.int a, .int b] = some (tp p, false) ∧ fr n p ∧ p.1 * b = p.2 * a := by
    have w := e_div hd a b
    generalize hg : Nat.gcd a.natAbs b.natAbs = g at w
    have g0 : 0 < g := by rw [← hg]; exact Nat.gcd_pos_of_pos_right _ (Int.natAbs_pos.mpr h0)
    obtain ⟨x, hx⟩ : (g : Int) ∣ a := by rw [← hg]; exact Int.natAbs_dvd_natAbs.mp (by simpa using Nat.gcd_dvd_left a.natAbs b.natAbs)
    obtain ⟨y, hy⟩ : (g : Int) ∣ b := by rw [← hg]; exact Int.natAbs_dvd_natAbs.mp (by simpa using Nat.gcd_dvd_right a.natAbs b.natAbs)
    have gb : bd n (g : Int) := bd_abs hb (by
      have := Nat.le_of_dvd (Int.natAbs_pos.mpr h0) (show g ∣ b.natAbs by rw [← hg]; exact Nat.gcd_dvd_right _ _)
      simpa using this)
    have gi : (0 : Int) < (g : Int) := by omega
    have cxy : Nat.gcd x.natAbs y.natAbs = 1 := by
      have e : Nat.gcd (g * x.natAbs) (g * y.natAbs) = g := by
        have h1 : a.natAbs = g * x.natAbs := by rw [hx, Int.natAbs_mul]; rfl
        have h2 : b.natAbs = g * y.natAbs := by rw [hy, Int.natAbs_mul]; rfl
        rw [← h1, ← h2]; exact hg
      rw [Nat.gcd_mul_left] at e
      exact Nat.eq_of_mul_eq_mul_left g0 (by rw [e, Nat.mul_one])
    rw [h, ev_f _ rfl]
    by_cases s : b < 0
    · have d1 : divOk (-(g : Int)) = true := divOk_bd (bd_neg gb) (by omega) (by omega)
      have ex : a.fdiv (-(g : Int)) = -x := by
        have : a = (-(g : Int)) * (-x) := by rw [Int.neg_mul_neg]; exact hx
        rw [this]; exact exact_div (by omega)
      have ey : b.fdiv (-(g : Int)) = -y := by
        have : b = (-(g : Int)) * (-y) := by rw [Int.neg_mul_neg]; exact hy
        rw [this]; exact exact_div (by omega)
      have y0 : y < 0 := by
        rcases Int.lt_or_le y 0 with z | z
        · exact z
        · have := Int.mul_nonneg (Int.le_of_lt gi) z; omega
      refine ⟨(-x, -y), ?_, ⟨bd_neg (bd_abs ha ?_), bd_neg (bd_abs hb ?_), by show 0 < -y; omega, by show Nat.gcd (-x).natAbs (-y).natAbs = 1; rw [Int.natAbs_neg, Int.natAbs_neg]; exact cxy⟩, ?_⟩
      · simp [f_fraction, init, ev_var, ev_brw, ev_cst, ev_bin, ev_neg, ev_not, ev_cmp, ev_and, ev_or, ev_ite, ev_call, ev_bi, ev_isi, ev_idx, ev_sl, ev_tup, ev_lst, ev_lc, evs_nil, evs_cons, evb_nil, evb_cons, evo_nil, evo_cons, ex_nil, ex_pass, ex_brk, ex_cons, ex_asg, ex_unp, ex_par, ex_aug, ex_ret, ex_retv, ex_iff, ex_for, ex_forc, forcX.eq_1, ex_whl, ex_app, ex_seti, ev_dnew, ev_dnewI, setkX.eq_1, setiX.eq_1, setiX.eq_2, ex_try, ex_hnd, phX.eq_1, try_exc, try_l, try_t, tryO_nil, tryO_one, hnd_eq, hndE.eq_1, hndE.eq_2, ex_pop, ex_clr, ex_revl, varX.eq_1, varX.eq_2, brwX.eq_1, binX.eq_1, negX.eq_1, notX.eq_1, cmpX.eq_1, boX.eq_1, andX.eq_1, andX.eq_2, orX.eq_1, orX.eq_2, iteX.eq_1, iteX.eq_2, retX.eq_1, retX.eq_2, callX.eq_1, biX.eq_1, isiX.eq_1, idxX.eq_1, slX.eq_1, tupX.eq_1, lstX.eq_1, iterX.eq_1, lcX.eq_1, consX.eq_1, consX.eq_2, consB.eq_1, oX.eq_1, thn.eq_1, thn.eq_2, thn.eq_3, asgX.eq_1, asgX.eq_2, unpX.eq_1, unpX.eq_2, parX.eq_1, augX.eq_1, retvX.eq_1, rtX.eq_1, rtX.eq_2, iffX.eq_1, iffX.eq_2, putX.eq_1, ownX.eq_1, appX.eq_1, appX.eq_2, popX.eq_1, mapX.eq_1, frz, frzAt, aft, asI, asB, asT, asTL.eq_1, asTL.eq_2, asL, fl_t, fl_l, fl_d, fl_i, fl_b, fl_n, fl_tp, fa_nil, fa_cons, fa_tp, fa_int, ks_l, ks_lz, ks_t, ks_i, ks_b, ks_n, ks_d, ks_tp, aftR, sc_l, sc_t, sc_i, sc_b, sc_n, outV, ty_ii, ty_bi, ty_ll, ty_tt, ty_bb, ty_ib, ty_lt, ty_li, ty_ls, ty_ss, ty_sl, ty_st, bindT, setMany, setL, intAt, catL, cm_lt, cm_le, cm_gt, cm_ge, cm_eqi, cm_nei, op_add, op_sub, op_mul, op_fdiv, op_mod, ix_t0, ix_t1, ix_t2, scal_tp, pow_ok, len_l, len_t, len_s, xb_abs, xb_max2, xb_min2, xb_list, xb_listT, xb_intb, xb_inti, xb_min, xb_max, it_seq, it_seqT, it_seqS, it_enum, it_zip, it_rev, w, s, op_fdiv d1, ex, ey, tp, h0]
      · rw [hx, Int.natAbs_mul]; exact Nat.le_mul_of_pos_left _ (by simpa using g0)
      · rw [hy, Int.natAbs_mul]; exact Nat.le_mul_of_pos_left _ (by simpa using g0)
      · show -x * b = -y * a
        rw [hx, hy]; grind
    · have d1 : divOk ((g : Int)) = true := divOk_bd gb (by omega) (by omega)
      have ex : a.fdiv ((g : Int)) = x := by rw [hx]; exact exact_div (by omega)
      have ey : b.fdiv ((g : Int)) = y := by rw [hy]; exact exact_div (by omega)
      have y0 : 0 < y := by
        rcases Int.lt_or_le 0 y with z | z
        · exact z
        · have : (g : Int) * y ≤ 0 := Int.mul_nonpos_of_nonneg_of_nonpos (Int.le_of_lt gi) z
          omega
      refine ⟨(x, y), ?_, ⟨bd_abs ha ?_, bd_abs hb ?_, y0, cxy⟩, ?_⟩
      · simp [f_fraction, init, ev_var, ev_brw, ev_cst, ev_bin, ev_neg, ev_not, ev_cmp, ev_and, ev_or, ev_ite, ev_call, ev_bi, ev_isi, ev_idx, ev_sl, ev_tup, ev_lst, ev_lc, evs_nil, evs_cons, evb_nil, evb_cons, evo_nil, evo_cons, ex_nil, ex_pass, ex_brk, ex_cons, ex_asg, ex_unp, ex_par, ex_aug, ex_ret, ex_retv, ex_iff, ex_for, ex_forc, forcX.eq_1, ex_whl, ex_app, ex_seti, ev_dnew, ev_dnewI, setkX.eq_1, setiX.eq_1, setiX.eq_2, ex_try, ex_hnd, phX.eq_1, try_exc, try_l, try_t, tryO_nil, tryO_one, hnd_eq, hndE.eq_1, hndE.eq_2, ex_pop, ex_clr, ex_revl, varX.eq_1, varX.eq_2, brwX.eq_1, binX.eq_1, negX.eq_1, notX.eq_1, cmpX.eq_1, boX.eq_1, andX.eq_1, andX.eq_2, orX.eq_1, orX.eq_2, iteX.eq_1, iteX.eq_2, retX.eq_1, retX.eq_2, callX.eq_1, biX.eq_1, isiX.eq_1, idxX.eq_1, slX.eq_1, tupX.eq_1, lstX.eq_1, iterX.eq_1, lcX.eq_1, consX.eq_1, consX.eq_2, consB.eq_1, oX.eq_1, thn.eq_1, thn.eq_2, thn.eq_3, asgX.eq_1, asgX.eq_2, unpX.eq_1, unpX.eq_2, parX.eq_1, augX.eq_1, retvX.eq_1, rtX.eq_1, rtX.eq_2, iffX.eq_1, iffX.eq_2, putX.eq_1, ownX.eq_1, appX.eq_1, appX.eq_2, popX.eq_1, mapX.eq_1, frz, frzAt, aft, asI, asB, asT, asTL.eq_1, asTL.eq_2, asL, fl_t, fl_l, fl_d, fl_i, fl_b, fl_n, fl_tp, fa_nil, fa_cons, fa_tp, fa_int, ks_l, ks_lz, ks_t, ks_i, ks_b, ks_n, ks_d, ks_tp, aftR, sc_l, sc_t, sc_i, sc_b, sc_n, outV, ty_ii, ty_bi, ty_ll, ty_tt, ty_bb, ty_ib, ty_lt, ty_li, ty_ls, ty_ss, ty_sl, ty_st, bindT, setMany, setL, intAt, catL, cm_lt, cm_le, cm_gt, cm_ge, cm_eqi, cm_nei, op_add, op_sub, op_mul, op_fdiv, op_mod, ix_t0, ix_t1, ix_t2, scal_tp, pow_ok, len_l, len_t, len_s, xb_abs, xb_max2, xb_min2, xb_list, xb_listT, xb_intb, xb_inti, xb_min, xb_max, it_seq, it_seqT, it_seqS, it_enum, it_zip, it_rev, w, s, op_fdiv d1, ex, ey, tp, h0]
      · rw [hx, Int.natAbs_mul]; exact Nat.le_mul_of_pos_left _ (by simpa using g0)
      · rw [hy, Int.natAbs_mul]; exact Nat.le_mul_of_pos_left _ (by simpa using g0)
      · show x * b = y * a
        rw [hx, hy]; grind
  obtain ⟨p, e, f, c⟩ := key
  have ep : Rat.divInt p.1 p.2 = Rat.divInt a b := (Rat.divInt_eq_divInt_iff (by have := f.pos; omega) h0).mpr (by rw [c, Int.mul_comm])
  have e2 := fr_N f
  rw [ep] at e2
  exact ⟨by rw [e, e2], by unfold sz; rw [← e2]; exact f⟩
/-! sums and products -/
def Bf (Φ : Ph) (f : Str) (op : Rat → Rat → Rat) : Prop := ∀ (x y : Rat) (n m : Nat), sz n x → sz m y → n + m + 1 ≤ 8000 → Φ f [tp (N x), tp (N y)] = some (tp (N (op x y)), false) ∧ sz (n + m + 1) (op x y)
section
variable {Φ : Ph} {x y : Rat} {n m : Nat}
theorem bnds (hx : sz n x) (hy : sz m y) (k : n + m + 1 ≤ 8000) :
    mulOk (N x).1 (N y).2 = true ∧ mulOk (N y).1 (N x).2 = true ∧ mulOk (N x).2 (N y).2 = true ∧ mulOk (N x).1 (N y).1 = true ∧
    bd (n + m + 1) ((N x).1 * (N y).2 + (N y).1 * (N x).2) ∧ bd (n + m + 1) ((N x).1 * (N y).2 - (N y).1 * (N x).2) ∧ bd (n + m + 1) ((N x).2 * (N y).2) ∧ bd (n + m + 1) ((N x).1 * (N y).1) ∧ (N x).2 * (N y).2 ≠ 0 := by
  have b1 := bd_mul hx.a hy.b
  have b2 := bd_mono (bd_mul hy.a hx.b) (show m + n ≤ n + m by omega)
  have b3 := bd_mul hx.b hy.b
  have b4 := bd_mul hx.a hy.a
  refine ⟨mulOk_bd hx.a hy.b (by omega), mulOk_bd hy.a hx.b (by omega), mulOk_bd hx.b hy.b (by omega), mulOk_bd hx.a hy.a (by omega), bd_mono (bd_add b1 b2) (by omega), bd_mono (bd_sub b1 b2) (by omega), bd_mono b3 (by omega), bd_mono b4 (by omega), ?_⟩
  intro e
  rcases Int.mul_eq_zero.mp e with e | e
  · exact N_ne x e
  · exact N_ne y e
end
theorem bf_plus {Φ : Ph} (h : Impl Φ "plus" f_plus) (l : Lo Φ "fraction") : Bf Φ "plus" (· + ·) := fun x y n m hx hy k => by
  obtain ⟨m1, m2, m3, _, b1, _, b3, _, nz⟩ := bnds hx hy k
  obtain ⟨e, s⟩ := l _ _ _ b1 b3 k nz
  rw [add_N] at e s
  refine ⟨?_, s⟩
  rw [h, ev_f _ rfl]
  simp [f_plus, init, ev_var, ev_brw, ev_cst, ev_bin, ev_neg, ev_not, ev_cmp, ev_and, ev_or, ev_ite, ev_call, ev_bi, ev_isi, ev_idx, ev_sl, ev_tup, ev_lst, ev_lc, evs_nil, evs_cons, evb_nil, evb_cons, evo_nil, evo_cons, ex_nil, ex_pass, ex_brk, ex_cons, ex_asg, ex_unp, ex_par, ex_aug, ex_ret, ex_retv, ex_iff, ex_for, ex_forc, forcX.eq_1, ex_whl, ex_app, ex_seti, ev_dnew, ev_dnewI, setkX.eq_1, setiX.eq_1, setiX.eq_2, ex_try, ex_hnd, phX.eq_1, try_exc, try_l, try_t, tryO_nil, tryO_one, hnd_eq, hndE.eq_1, hndE.eq_2, ex_pop, ex_clr, ex_revl, varX.eq_1, varX.eq_2, brwX.eq_1, binX.eq_1, negX.eq_1, notX.eq_1, cmpX.eq_1, boX.eq_1, andX.eq_1, andX.eq_2, orX.eq_1, orX.eq_2, iteX.eq_1, iteX.eq_2, retX.eq_1, retX.eq_2, callX.eq_1, biX.eq_1, isiX.eq_1, idxX.eq_1, slX.eq_1, tupX.eq_1, lstX.eq_1, iterX.eq_1, lcX.eq_1, consX.eq_1, consX.eq_2, consB.eq_1, oX.eq_1, thn.eq_1, thn.eq_2, thn.eq_3, asgX.eq_1, asgX.eq_2, unpX.eq_1, unpX.eq_2, parX.eq_1, augX.eq_1, retvX.eq_1, rtX.eq_1, rtX.eq_2, iffX.eq_1, iffX.eq_2, putX.eq_1, ownX.eq_1, appX.eq_1, appX.eq_2, popX.eq_1, mapX.eq_1, frz, frzAt, aft, asI, asB, asT, asTL.eq_1, asTL.eq_2, asL, fl_t, fl_l, fl_d, fl_i, fl_b, fl_n, fl_tp, fa_nil, fa_cons, fa_tp, fa_int, ks_l, ks_lz, ks_t, ks_i, ks_b, ks_n, ks_d, ks_tp, aftR, sc_l, sc_t, sc_i, sc_b, sc_n, outV, ty_ii, ty_bi, ty_ll, ty_tt, ty_bb, ty_ib, ty_lt, ty_li, ty_ls, ty_ss, ty_sl, ty_st, bindT, setMany, setL, intAt, catL, cm_lt, cm_le, cm_gt, cm_ge, cm_eqi, cm_nei, op_add, op_sub, op_mul, op_fdiv, op_mod, ix_t0, ix_t1, ix_t2, scal_tp, pow_ok, len_l, len_t, len_s, xb_abs, xb_max2, xb_min2, xb_list, xb_listT, xb_intb, xb_inti, xb_min, xb_max, it_seq, it_seqT, it_seqS, it_enum, it_zip, it_rev, ix_f0, ix_f1, m1, m2, m3, e]
theorem bf_minus {Φ : Ph} (h : Impl Φ "minus" f_minus) (l : Lo Φ "fraction") : Bf Φ "minus" (· - ·) := fun x y n m hx hy k => by
  obtain ⟨m1, m2, m3, _, _, b2, b3, _, nz⟩ := bnds hx hy k
  obtain ⟨e, s⟩ := l _ _ _ b2 b3 k nz
  rw [sub_N] at e s
  refine ⟨?_, s⟩
  rw [h, ev_f _ rfl]
  simp [f_minus, init, ev_var, ev_brw, ev_cst, ev_bin, ev_neg, ev_not, ev_cmp, ev_and, ev_or, ev_ite, ev_call, ev_bi, ev_isi, ev_idx, ev_sl, ev_tup, ev_lst, ev_lc, evs_nil, evs_cons, evb_nil, evb_cons, evo_nil, evo_cons, ex_nil, ex_pass, ex_brk, ex_cons, ex_asg, ex_unp, ex_par, ex_aug, ex_ret, ex_retv, ex_iff, ex_for, ex_forc, forcX.eq_1, ex_whl, ex_app, ex_seti, ev_dnew, ev_dnewI, setkX.eq_1, setiX.eq_1, setiX.eq_2, ex_try, ex_hnd, phX.eq_1, try_exc, try_l, try_t, tryO_nil, tryO_one, hnd_eq, hndE.eq_1, hndE.eq_2, ex_pop, ex_clr, ex_revl, varX.eq_1, varX.eq_2, brwX.eq_1, binX.eq_1, negX.eq_1, notX.eq_1, cmpX.eq_1, boX.eq_1, andX.eq_1, andX.eq_2, orX.eq_1, orX.eq_2, iteX.eq_1, iteX.eq_2, retX.eq_1, retX.eq_2, callX.eq_1, biX.eq_1, isiX.eq_1, idxX.eq_1, slX.eq_1, tupX.eq_1, lstX.eq_1, iterX.eq_1, lcX.eq_1, consX.eq_1, consX.eq_2, consB.eq_1, oX.eq_1, thn.eq_1, thn.eq_2, thn.eq_3, asgX.eq_1, asgX.eq_2, unpX.eq_1, unpX.eq_2, parX.eq_1, augX.eq_1, retvX.eq_1, rtX.eq_1, rtX.eq_2, iffX.eq_1, iffX.eq_2, putX.eq_1, ownX.eq_1, appX.eq_1, appX.eq_2, popX.eq_1, mapX.eq_1, frz, frzAt, aft, asI, asB, asT, asTL.eq_1, asTL.eq_2, asL, fl_t, fl_l, fl_d, fl_i, fl_b, fl_n, fl_tp, fa_nil, fa_cons, fa_tp, fa_int, ks_l, ks_lz, ks_t, ks_i, ks_b, ks_n, ks_d, ks_tp, aftR, sc_l, sc_t, sc_i, sc_b, sc_n, outV, ty_ii, ty_bi, ty_ll, ty_tt, ty_bb, ty_ib, ty_lt, ty_li, ty_ls, ty_ss, ty_sl, ty_st, bindT, setMany, setL, intAt, catL, cm_lt, cm_le, cm_gt, cm_ge, cm_eqi, cm_nei, op_add, op_sub, op_mul, op_fdiv, op_mod, ix_t0, ix_t1, ix_t2, scal_tp, pow_ok, len_l, len_t, len_s, xb_abs, xb_max2, xb_min2, xb_list, xb_listT, xb_intb, xb_inti, xb_min, xb_max, it_seq, it_seqT, it_seqS, it_enum, it_zip, it_rev, ix_f0, ix_f1, m1, m2, m3, e]
theorem bf_times {Φ : Ph} (h : Impl Φ "times" f_times) (l : Lo Φ "fraction") : Bf Φ "times" (· * ·) := fun x y n m hx hy k => by
  obtain ⟨_, _, m3, m4, _, _, b3, b4, nz⟩ := bnds hx hy k
  obtain ⟨e, s⟩ := l _ _ _ b4 b3 k nz
  rw [mul_N] at e s
  refine ⟨?_, s⟩
  rw [h, ev_f _ rfl]
  simp [f_times, init, ev_var, ev_brw, ev_cst, ev_bin, ev_neg, ev_not, ev_cmp, ev_and, ev_or, ev_ite, ev_call, ev_bi, ev_isi, ev_idx, ev_sl, ev_tup, ev_lst, ev_lc, evs_nil, evs_cons, evb_nil, evb_cons, evo_nil, evo_cons, ex_nil, ex_pass, ex_brk, ex_cons, ex_asg, ex_unp, ex_par, ex_aug, ex_ret, ex_retv, ex_iff, ex_for, ex_forc, forcX.eq_1, ex_whl, ex_app, ex_seti, ev_dnew, ev_dnewI, setkX.eq_1, setiX.eq_1, setiX.eq_2, ex_try, ex_hnd, phX.eq_1, try_exc, try_l, try_t, tryO_nil, tryO_one, hnd_eq, hndE.eq_1, hndE.eq_2, ex_pop, ex_clr, ex_revl, varX.eq_1, varX.eq_2, brwX.eq_1, binX.eq_1, negX.eq_1, notX.eq_1, cmpX.eq_1, boX.eq_1, andX.eq_1, andX.eq_2, orX.eq_1, orX.eq_2, iteX.eq_1, iteX.eq_2, retX.eq_1, retX.eq_2, callX.eq_1, biX.eq_1, isiX.eq_1, idxX.eq_1, slX.eq_1, tupX.eq_1, lstX.eq_1, iterX.eq_1, lcX.eq_1, consX.eq_1, consX.eq_2, consB.eq_1, oX.eq_1, thn.eq_1, thn.eq_2, thn.eq_3, asgX.eq_1, asgX.eq_2, unpX.eq_1, unpX.eq_2, parX.eq_1, augX.eq_1, retvX.eq_1, rtX.eq_1, rtX.eq_2, iffX.eq_1, iffX.eq_2, putX.eq_1, ownX.eq_1, appX.eq_1, appX.eq_2, popX.eq_1, mapX.eq_1, frz, frzAt, aft, asI, asB, asT, asTL.eq_1, asTL.eq_2, asL, fl_t, fl_l, fl_d, fl_i, fl_b, fl_n, fl_tp, fa_nil, fa_cons, fa_tp, fa_int, ks_l, ks_lz, ks_t, ks_i, ks_b, ks_n, ks_d, ks_tp, aftR, sc_l, sc_t, sc_i, sc_b, sc_n, outV, ty_ii, ty_bi, ty_ll, ty_tt, ty_bb, ty_ib, ty_lt, ty_li, ty_ls, ty_ss, ty_sl, ty_st, bindT, setMany, setL, intAt, catL, cm_lt, cm_le, cm_gt, cm_ge, cm_eqi, cm_nei, op_add, op_sub, op_mul, op_fdiv, op_mod, ix_t0, ix_t1, ix_t2, scal_tp, pow_ok, len_l, len_t, len_s, xb_abs, xb_max2, xb_min2, xb_list, xb_listT, xb_intb, xb_inti, xb_min, xb_max, it_seq, it_seqT, it_seqS, it_enum, it_zip, it_rev, ix_f0, ix_f1, m3, m4, e]
theorem bf_sum {Φ : Ph} (h : Impl Φ "_law_sum" f__law_sum) (l : Lo Φ "_law_low") : Bf Φ "_law_sum" (· + ·) := fun x y n m hx hy k => by
  obtain ⟨m1, m2, m3, _, b1, _, b3, _, nz⟩ := bnds hx hy k
  obtain ⟨e, s⟩ := l _ _ _ b1 b3 k nz
  rw [add_N] at e s
  refine ⟨?_, s⟩
  rw [h, ev_f _ rfl]
  simp [f__law_sum, init, ev_var, ev_brw, ev_cst, ev_bin, ev_neg, ev_not, ev_cmp, ev_and, ev_or, ev_ite, ev_call, ev_bi, ev_isi, ev_idx, ev_sl, ev_tup, ev_lst, ev_lc, evs_nil, evs_cons, evb_nil, evb_cons, evo_nil, evo_cons, ex_nil, ex_pass, ex_brk, ex_cons, ex_asg, ex_unp, ex_par, ex_aug, ex_ret, ex_retv, ex_iff, ex_for, ex_forc, forcX.eq_1, ex_whl, ex_app, ex_seti, ev_dnew, ev_dnewI, setkX.eq_1, setiX.eq_1, setiX.eq_2, ex_try, ex_hnd, phX.eq_1, try_exc, try_l, try_t, tryO_nil, tryO_one, hnd_eq, hndE.eq_1, hndE.eq_2, ex_pop, ex_clr, ex_revl, varX.eq_1, varX.eq_2, brwX.eq_1, binX.eq_1, negX.eq_1, notX.eq_1, cmpX.eq_1, boX.eq_1, andX.eq_1, andX.eq_2, orX.eq_1, orX.eq_2, iteX.eq_1, iteX.eq_2, retX.eq_1, retX.eq_2, callX.eq_1, biX.eq_1, isiX.eq_1, idxX.eq_1, slX.eq_1, tupX.eq_1, lstX.eq_1, iterX.eq_1, lcX.eq_1, consX.eq_1, consX.eq_2, consB.eq_1, oX.eq_1, thn.eq_1, thn.eq_2, thn.eq_3, asgX.eq_1, asgX.eq_2, unpX.eq_1, unpX.eq_2, parX.eq_1, augX.eq_1, retvX.eq_1, rtX.eq_1, rtX.eq_2, iffX.eq_1, iffX.eq_2, putX.eq_1, ownX.eq_1, appX.eq_1, appX.eq_2, popX.eq_1, mapX.eq_1, frz, frzAt, aft, asI, asB, asT, asTL.eq_1, asTL.eq_2, asL, fl_t, fl_l, fl_d, fl_i, fl_b, fl_n, fl_tp, fa_nil, fa_cons, fa_tp, fa_int, ks_l, ks_lz, ks_t, ks_i, ks_b, ks_n, ks_d, ks_tp, aftR, sc_l, sc_t, sc_i, sc_b, sc_n, outV, ty_ii, ty_bi, ty_ll, ty_tt, ty_bb, ty_ib, ty_lt, ty_li, ty_ls, ty_ss, ty_sl, ty_st, bindT, setMany, setL, intAt, catL, cm_lt, cm_le, cm_gt, cm_ge, cm_eqi, cm_nei, op_add, op_sub, op_mul, op_fdiv, op_mod, ix_t0, ix_t1, ix_t2, scal_tp, pow_ok, len_l, len_t, len_s, xb_abs, xb_max2, xb_min2, xb_list, xb_listT, xb_intb, xb_inti, xb_min, xb_max, it_seq, it_seqT, it_seqS, it_enum, it_zip, it_rev, ix_f0, ix_f1, m1, m2, m3, e]
theorem bf_product {Φ : Ph} (h : Impl Φ "_law_product" f__law_product) (l : Lo Φ "_law_low") : Bf Φ "_law_product" (· * ·) := fun x y n m hx hy k => by
  obtain ⟨_, _, m3, m4, _, _, b3, b4, nz⟩ := bnds hx hy k
  obtain ⟨e, s⟩ := l _ _ _ b4 b3 k nz
  rw [mul_N] at e s
  refine ⟨?_, s⟩
  rw [h, ev_f _ rfl]
  simp [f__law_product, init, ev_var, ev_brw, ev_cst, ev_bin, ev_neg, ev_not, ev_cmp, ev_and, ev_or, ev_ite, ev_call, ev_bi, ev_isi, ev_idx, ev_sl, ev_tup, ev_lst, ev_lc, evs_nil, evs_cons, evb_nil, evb_cons, evo_nil, evo_cons, ex_nil, ex_pass, ex_brk, ex_cons, ex_asg, ex_unp, ex_par, ex_aug, ex_ret, ex_retv, ex_iff, ex_for, ex_forc, forcX.eq_1, ex_whl, ex_app, ex_seti, ev_dnew, ev_dnewI, setkX.eq_1, setiX.eq_1, setiX.eq_2, ex_try, ex_hnd, phX.eq_1, try_exc, try_l, try_t, tryO_nil, tryO_one, hnd_eq, hndE.eq_1, hndE.eq_2, ex_pop, ex_clr, ex_revl, varX.eq_1, varX.eq_2, brwX.eq_1, binX.eq_1, negX.eq_1, notX.eq_1, cmpX.eq_1, boX.eq_1, andX.eq_1, andX.eq_2, orX.eq_1, orX.eq_2, iteX.eq_1, iteX.eq_2, retX.eq_1, retX.eq_2, callX.eq_1, biX.eq_1, isiX.eq_1, idxX.eq_1, slX.eq_1, tupX.eq_1, lstX.eq_1, iterX.eq_1, lcX.eq_1, consX.eq_1, consX.eq_2, consB.eq_1, oX.eq_1, thn.eq_1, thn.eq_2, thn.eq_3, asgX.eq_1, asgX.eq_2, unpX.eq_1, unpX.eq_2, parX.eq_1, augX.eq_1, retvX.eq_1, rtX.eq_1, rtX.eq_2, iffX.eq_1, iffX.eq_2, putX.eq_1, ownX.eq_1, appX.eq_1, appX.eq_2, popX.eq_1, mapX.eq_1, frz, frzAt, aft, asI, asB, asT, asTL.eq_1, asTL.eq_2, asL, fl_t, fl_l, fl_d, fl_i, fl_b, fl_n, fl_tp, fa_nil, fa_cons, fa_tp, fa_int, ks_l, ks_lz, ks_t, ks_i, ks_b, ks_n, ks_d, ks_tp, aftR, sc_l, sc_t, sc_i, sc_b, sc_n, outV, ty_ii, ty_bi, ty_ll, ty_tt, ty_bb, ty_ib, ty_lt, ty_li, ty_ls, ty_ss, ty_sl, ty_st, bindT, setMany, setL, intAt, catL, cm_lt, cm_le, cm_gt, cm_ge, cm_eqi, cm_nei, op_add, op_sub, op_mul, op_fdiv, op_mod, ix_t0, ix_t1, ix_t2, scal_tp, pow_ok, len_l, len_t, len_s, xb_abs, xb_max2, xb_min2, xb_list, xb_listT, xb_intb, xb_inti, xb_min, xb_max, it_seq, it_seqT, it_seqS, it_enum, it_zip, it_rev, ix_f0, ix_f1, m3, m4, e]
theorem e_less {Φ : Ph} (h : Impl Φ "less" f_less) {x y : Rat} {n m : Nat} (hx : sz n x) (hy : sz m y) (k : n + m + 1 ≤ 8000) : Φ "less" [tp (N x), tp (N y)] = some (.bool (decide (x < y)), false) := by
  obtain ⟨m1, m2, _⟩ := bnds hx hy k
  rw [h, ev_f _ rfl]
  simp [f_less, init, ev_var, ev_brw, ev_cst, ev_bin, ev_neg, ev_not, ev_cmp, ev_and, ev_or, ev_ite, ev_call, ev_bi, ev_isi, ev_idx, ev_sl, ev_tup, ev_lst, ev_lc, evs_nil, evs_cons, evb_nil, evb_cons, evo_nil, evo_cons, ex_nil, ex_pass, ex_brk, ex_cons, ex_asg, ex_unp, ex_par, ex_aug, ex_ret, ex_retv, ex_iff, ex_for, ex_forc, forcX.eq_1, ex_whl, ex_app, ex_seti, ev_dnew, ev_dnewI, setkX.eq_1, setiX.eq_1, setiX.eq_2, ex_try, ex_hnd, phX.eq_1, try_exc, try_l, try_t, tryO_nil, tryO_one, hnd_eq, hndE.eq_1, hndE.eq_2, ex_pop, ex_clr, ex_revl, varX.eq_1, varX.eq_2, brwX.eq_1, binX.eq_1, negX.eq_1, notX.eq_1, cmpX.eq_1, boX.eq_1, andX.eq_1, andX.eq_2, orX.eq_1, orX.eq_2, iteX.eq_1, iteX.eq_2, retX.eq_1, retX.eq_2, callX.eq_1, biX.eq_1, isiX.eq_1, idxX.eq_1, slX.eq_1, tupX.eq_1, lstX.eq_1, iterX.eq_1, lcX.eq_1, consX.eq_1, consX.eq_2, consB.eq_1, oX.eq_1, thn.eq_1, thn.eq_2, thn.eq_3, asgX.eq_1, asgX.eq_2, unpX.eq_1, unpX.eq_2, parX.eq_1, augX.eq_1, retvX.eq_1, rtX.eq_1, rtX.eq_2, iffX.eq_1, iffX.eq_2, putX.eq_1, ownX.eq_1, appX.eq_1, appX.eq_2, popX.eq_1, mapX.eq_1, frz, frzAt, aft, asI, asB, asT, asTL.eq_1, asTL.eq_2, asL, fl_t, fl_l, fl_d, fl_i, fl_b, fl_n, fl_tp, fa_nil, fa_cons, fa_tp, fa_int, ks_l, ks_lz, ks_t, ks_i, ks_b, ks_n, ks_d, ks_tp, aftR, sc_l, sc_t, sc_i, sc_b, sc_n, outV, ty_ii, ty_bi, ty_ll, ty_tt, ty_bb, ty_ib, ty_lt, ty_li, ty_ls, ty_ss, ty_sl, ty_st, bindT, setMany, setL, intAt, catL, cm_lt, cm_le, cm_gt, cm_ge, cm_eqi, cm_nei, op_add, op_sub, op_mul, op_fdiv, op_mod, ix_t0, ix_t1, ix_t2, scal_tp, pow_ok, len_l, len_t, len_s, xb_abs, xb_max2, xb_min2, xb_list, xb_listT, xb_intb, xb_inti, xb_min, xb_max, it_seq, it_seqT, it_seqS, it_enum, it_zip, it_rev, ix_f0, ix_f1, m1, m2]
  exact lt_N x y
/-! planes -/
def val (p : Pl) : Rat := Rat.divInt p.h.1 p.h.2
structure gq (n : Nat) (p : Pl) : Prop where
  i : bd 5 p.i
  j : bd 5 p.j
  h : fr n p.h
theorem gq_of {p : Pl} (g : gp p) : gq 80 p := ⟨g.i, g.j, g.h⟩
theorem gq.N {n : Nat} {p : Pl} (g : gq n p) : p.h = N (val p) := fr_N g.h
theorem gq.sz {n : Nat} {p : Pl} (g : gq n p) : sz n (val p) := by unfold K07.sz; rw [← g.N]; exact g.h
def mk (i j : Int) (x : Rat) : Pl := ⟨i, j, N x⟩
theorem val_mk (i j : Int) (x : Rat) : val (mk i j x) = x := N_self x
theorem gq_mk {n : Nat} {i j : Int} {x : Rat} (hi : bd 5 i) (hj : bd 5 j) (hx : sz n x) : gq n (mk i j x) := ⟨hi, hj, hx⟩
theorem mk_val {n : Nat} {p : Pl} (g : gq n p) : mk p.i p.j (val p) = p := by unfold mk; rw [← g.N]
def rai (h : Rat) (p : Pl) : Pl := mk p.i p.j (val p + h)
def acr (x y : Rat) (p : Pl) : Rat := p.i * x + p.j * y
def mov (x y : Rat) (p : Pl) : Pl := mk p.i p.j (val p - acr x y p)
def hgt (x y : Rat) (p : Pl) : Rat := acr x y p + val p
theorem gq_rai {n m : Nat} {h : Rat} {p : Pl} (g : gq n p) (hs : sz (n + m + 1) (val p + h)) : gq (n + m + 1) (rai h p) := gq_mk g.i g.j hs
theorem pl_ix2 {n : Nat} {p : Pl} (g : gq n p) : idxO (pl p) (.int 2) = some (tp (N (val p))) := by rw [← g.N]; exact ix_p2 p
theorem e_raised {Φ : Ph} (h : Impl Φ "raised" f_raised) (pp : Bf Φ "plus" (· + ·)) {x : Rat} {n m : Nat} {ps : List Pl} (g : ∀ p ∈ ps, gq n p) (hl : ps.length ≤ 4000) (hx : sz m x) (k : n + m + 1 ≤ 8000) :
    Φ "raised" [.list (ps.map pl), tp (N x)] = some (.list ((ps.map (rai x)).map pl), true) ∧ ∀ q ∈ ps.map (rai x), gq (n + m + 1) q := by
  have lim1 : ps.length ≤ lim := by unfold lim; omega
  have lc1 : ∀ s0 : Slot, lcGoX Φ (.nm 2) (.cst (.bool true)) (.tup (.cons (.idx (.brw 2) (.cst (.int 0))) (.cons (.idx (.brw 2) (.cst (.int 1))) (.cons (.call "plus" (.cons (.idx (.brw 2) (.cst (.int 2))) (.cons (.var 1) .nil))) .nil)))) [s0, some (tp (N x), false), none] (ps.map pl) = some (ps.map fun p => pl (rai x p)) := fun s0 => by
    refine lc_m fun p hp => ?_
    obtain ⟨e, _⟩ := pp (val p) x n m (g p hp).sz hx k
    have e2 := pl_ix2 (g p hp)
    exact ⟨[s0, some (tp (N x), false), some (pl p, false)], (pl (rai x p), .z), rfl, by simp [init, ev_var, ev_brw, ev_cst, ev_bin, ev_neg, ev_not, ev_cmp, ev_and, ev_or, ev_ite, ev_call, ev_bi, ev_isi, ev_idx, ev_sl, ev_tup, ev_lst, ev_lc, evs_nil, evs_cons, evb_nil, evb_cons, evo_nil, evo_cons, ex_nil, ex_pass, ex_brk, ex_cons, ex_asg, ex_unp, ex_par, ex_aug, ex_ret, ex_retv, ex_iff, ex_for, ex_forc, forcX.eq_1, ex_whl, ex_app, ex_seti, ev_dnew, ev_dnewI, setkX.eq_1, setiX.eq_1, setiX.eq_2, ex_try, ex_hnd, phX.eq_1, try_exc, try_l, try_t, tryO_nil, tryO_one, hnd_eq, hndE.eq_1, hndE.eq_2, ex_pop, ex_clr, ex_revl, varX.eq_1, varX.eq_2, brwX.eq_1, binX.eq_1, negX.eq_1, notX.eq_1, cmpX.eq_1, boX.eq_1, andX.eq_1, andX.eq_2, orX.eq_1, orX.eq_2, iteX.eq_1, iteX.eq_2, retX.eq_1, retX.eq_2, callX.eq_1, biX.eq_1, isiX.eq_1, idxX.eq_1, slX.eq_1, tupX.eq_1, lstX.eq_1, iterX.eq_1, lcX.eq_1, consX.eq_1, consX.eq_2, consB.eq_1, oX.eq_1, thn.eq_1, thn.eq_2, thn.eq_3, asgX.eq_1, asgX.eq_2, unpX.eq_1, unpX.eq_2, parX.eq_1, augX.eq_1, retvX.eq_1, rtX.eq_1, rtX.eq_2, iffX.eq_1, iffX.eq_2, putX.eq_1, ownX.eq_1, appX.eq_1, appX.eq_2, popX.eq_1, mapX.eq_1, frz, frzAt, aft, asI, asB, asT, asTL.eq_1, asTL.eq_2, asL, fl_t, fl_l, fl_d, fl_i, fl_b, fl_n, fl_tp, fa_nil, fa_cons, fa_tp, fa_int, ks_l, ks_lz, ks_t, ks_i, ks_b, ks_n, ks_d, ks_tp, aftR, sc_l, sc_t, sc_i, sc_b, sc_n, outV, ty_ii, ty_bi, ty_ll, ty_tt, ty_bb, ty_ib, ty_lt, ty_li, ty_ls, ty_ss, ty_sl, ty_st, bindT, setMany, setL, intAt, catL, cm_lt, cm_le, cm_gt, cm_ge, cm_eqi, cm_nei, op_add, op_sub, op_mul, op_fdiv, op_mod, ix_t0, ix_t1, ix_t2, scal_tp, pow_ok, len_l, len_t, len_s, xb_abs, xb_max2, xb_min2, xb_list, xb_listT, xb_intb, xb_inti, xb_min, xb_max, it_seq, it_seqT, it_seqS, it_enum, it_zip, it_rev], by simp [init, ev_var, ev_brw, ev_cst, ev_bin, ev_neg, ev_not, ev_cmp, ev_and, ev_or, ev_ite, ev_call, ev_bi, ev_isi, ev_idx, ev_sl, ev_tup, ev_lst, ev_lc, evs_nil, evs_cons, evb_nil, evb_cons, evo_nil, evo_cons, ex_nil, ex_pass, ex_brk, ex_cons, ex_asg, ex_unp, ex_par, ex_aug, ex_ret, ex_retv, ex_iff, ex_for, ex_forc, forcX.eq_1, ex_whl, ex_app, ex_seti, ev_dnew, ev_dnewI, setkX.eq_1, setiX.eq_1, setiX.eq_2, ex_try, ex_hnd, phX.eq_1, try_exc, try_l, try_t, tryO_nil, tryO_one, hnd_eq, hndE.eq_1, hndE.eq_2, ex_pop, ex_clr, ex_revl, varX.eq_1, varX.eq_2, brwX.eq_1, binX.eq_1, negX.eq_1, notX.eq_1, cmpX.eq_1, boX.eq_1, andX.eq_1, andX.eq_2, orX.eq_1, orX.eq_2, iteX.eq_1, iteX.eq_2, retX.eq_1, retX.eq_2, callX.eq_1, biX.eq_1, isiX.eq_1, idxX.eq_1, slX.eq_1, tupX.eq_1, lstX.eq_1, iterX.eq_1, lcX.eq_1, consX.eq_1, consX.eq_2, consB.eq_1, oX.eq_1, thn.eq_1, thn.eq_2, thn.eq_3, asgX.eq_1, asgX.eq_2, unpX.eq_1, unpX.eq_2, parX.eq_1, augX.eq_1, retvX.eq_1, rtX.eq_1, rtX.eq_2, iffX.eq_1, iffX.eq_2, putX.eq_1, ownX.eq_1, appX.eq_1, appX.eq_2, popX.eq_1, mapX.eq_1, frz, frzAt, aft, asI, asB, asT, asTL.eq_1, asTL.eq_2, asL, fl_t, fl_l, fl_d, fl_i, fl_b, fl_n, fl_tp, fa_nil, fa_cons, fa_tp, fa_int, ks_l, ks_lz, ks_t, ks_i, ks_b, ks_n, ks_d, ks_tp, aftR, sc_l, sc_t, sc_i, sc_b, sc_n, outV, ty_ii, ty_bi, ty_ll, ty_tt, ty_bb, ty_ib, ty_lt, ty_li, ty_ls, ty_ss, ty_sl, ty_st, bindT, setMany, setL, intAt, catL, cm_lt, cm_le, cm_gt, cm_ge, cm_eqi, cm_nei, op_add, op_sub, op_mul, op_fdiv, op_mod, ix_t0, ix_t1, ix_t2, scal_tp, pow_ok, len_l, len_t, len_s, xb_abs, xb_max2, xb_min2, xb_list, xb_listT, xb_intb, xb_inti, xb_min, xb_max, it_seq, it_seqT, it_seqS, it_enum, it_zip, it_rev, ix_p0, ix_p1, e2, e]; rfl, rfl⟩
  constructor
  · rw [h, ev_f _ rfl, List.map_map]
    simp [f_raised, init, ev_var, ev_brw, ev_cst, ev_bin, ev_neg, ev_not, ev_cmp, ev_and, ev_or, ev_ite, ev_call, ev_bi, ev_isi, ev_idx, ev_sl, ev_tup, ev_lst, ev_lc, evs_nil, evs_cons, evb_nil, evb_cons, evo_nil, evo_cons, ex_nil, ex_pass, ex_brk, ex_cons, ex_asg, ex_unp, ex_par, ex_aug, ex_ret, ex_retv, ex_iff, ex_for, ex_forc, forcX.eq_1, ex_whl, ex_app, ex_seti, ev_dnew, ev_dnewI, setkX.eq_1, setiX.eq_1, setiX.eq_2, ex_try, ex_hnd, phX.eq_1, try_exc, try_l, try_t, tryO_nil, tryO_one, hnd_eq, hndE.eq_1, hndE.eq_2, ex_pop, ex_clr, ex_revl, varX.eq_1, varX.eq_2, brwX.eq_1, binX.eq_1, negX.eq_1, notX.eq_1, cmpX.eq_1, boX.eq_1, andX.eq_1, andX.eq_2, orX.eq_1, orX.eq_2, iteX.eq_1, iteX.eq_2, retX.eq_1, retX.eq_2, callX.eq_1, biX.eq_1, isiX.eq_1, idxX.eq_1, slX.eq_1, tupX.eq_1, lstX.eq_1, iterX.eq_1, lcX.eq_1, consX.eq_1, consX.eq_2, consB.eq_1, oX.eq_1, thn.eq_1, thn.eq_2, thn.eq_3, asgX.eq_1, asgX.eq_2, unpX.eq_1, unpX.eq_2, parX.eq_1, augX.eq_1, retvX.eq_1, rtX.eq_1, rtX.eq_2, iffX.eq_1, iffX.eq_2, putX.eq_1, ownX.eq_1, appX.eq_1, appX.eq_2, popX.eq_1, mapX.eq_1, frz, frzAt, aft, asI, asB, asT, asTL.eq_1, asTL.eq_2, asL, fl_t, fl_l, fl_d, fl_i, fl_b, fl_n, fl_tp, fa_nil, fa_cons, fa_tp, fa_int, ks_l, ks_lz, ks_t, ks_i, ks_b, ks_n, ks_d, ks_tp, aftR, sc_l, sc_t, sc_i, sc_b, sc_n, outV, ty_ii, ty_bi, ty_ll, ty_tt, ty_bb, ty_ib, ty_lt, ty_li, ty_ls, ty_ss, ty_sl, ty_st, bindT, setMany, setL, intAt, catL, cm_lt, cm_le, cm_gt, cm_ge, cm_eqi, cm_nei, op_add, op_sub, op_mul, op_fdiv, op_mod, ix_t0, ix_t1, ix_t2, scal_tp, pow_ok, len_l, len_t, len_s, xb_abs, xb_max2, xb_min2, xb_list, xb_listT, xb_intb, xb_inti, xb_min, xb_max, it_seq, it_seqT, it_seqS, it_enum, it_zip, it_rev, lim1, lc1]
  · intro q hq
    obtain ⟨p, hp, rfl⟩ := List.mem_map.mp hq
    exact gq_rai (g p hp) (pp (val p) x n m (g p hp).sz hx k).2
theorem sz_i {i : Int} (h : bd 5 i) : sz 5 (i : Rat) := sz_int h (by decide)
theorem acr_sz {Φ : Ph} (pp : Bf Φ "plus" (· + ·)) (tt : Bf Φ "times" (· * ·)) {n : Nat} {x y : Rat} (hx : sz n x) (hy : sz n y) (k : 2 * n + 20 ≤ 8000) {p : Pl} (pi : bd 5 p.i) (pj : bd 5 p.j) : sz (2 * n + 13) (acr x y p) := by
  have h1 := (tt _ _ _ _ (sz_i pi) hx (by omega)).2
  have h2 := (tt _ _ _ _ (sz_i pj) hy (by omega)).2
  exact sz_mono (pp _ _ _ _ h1 h2 (by omega)).2 (by omega)
theorem e_ph {Φ : Ph} (h : Impl Φ "plane_height" f_plane_height) (pp : Bf Φ "plus" (· + ·)) (tt : Bf Φ "times" (· * ·)) {n m : Nat} {x y : Rat} (hx : sz n x) (hy : sz n y) {p : Pl} (g : gq m p) (k : 2 * n + m + 20 ≤ 8000) :
    Φ "plane_height" [pl p, .tuple [tp (N x), tp (N y)]] = some (tp (N (hgt x y p)), false) ∧ sz (2 * n + m + 14) (hgt x y p) := by
  obtain ⟨e1, s1⟩ := tt _ _ _ _ (sz_i g.i) hx (by omega)
  obtain ⟨e2, s2⟩ := tt _ _ _ _ (sz_i g.j) hy (by omega)
  obtain ⟨e3, s3⟩ := pp _ _ _ _ s1 s2 (by omega)
  obtain ⟨e4, s4⟩ := pp _ _ _ _ s3 g.sz (by omega)
  have e1 : Φ "times" [.tuple [.int p.i, .int 1], tp (N x)] = _ := e1
  have e2 : Φ "times" [.tuple [.int p.j, .int 1], tp (N y)] = _ := e2
  have i2 := pl_ix2 g
  refine ⟨?_, sz_mono s4 (by omega)⟩
  rw [h, ev_f _ rfl]
  simp [f_plane_height, init, ev_var, ev_brw, ev_cst, ev_bin, ev_neg, ev_not, ev_cmp, ev_and, ev_or, ev_ite, ev_call, ev_bi, ev_isi, ev_idx, ev_sl, ev_tup, ev_lst, ev_lc, evs_nil, evs_cons, evb_nil, evb_cons, evo_nil, evo_cons, ex_nil, ex_pass, ex_brk, ex_cons, ex_asg, ex_unp, ex_par, ex_aug, ex_ret, ex_retv, ex_iff, ex_for, ex_forc, forcX.eq_1, ex_whl, ex_app, ex_seti, ev_dnew, ev_dnewI, setkX.eq_1, setiX.eq_1, setiX.eq_2, ex_try, ex_hnd, phX.eq_1, try_exc, try_l, try_t, tryO_nil, tryO_one, hnd_eq, hndE.eq_1, hndE.eq_2, ex_pop, ex_clr, ex_revl, varX.eq_1, varX.eq_2, brwX.eq_1, binX.eq_1, negX.eq_1, notX.eq_1, cmpX.eq_1, boX.eq_1, andX.eq_1, andX.eq_2, orX.eq_1, orX.eq_2, iteX.eq_1, iteX.eq_2, retX.eq_1, retX.eq_2, callX.eq_1, biX.eq_1, isiX.eq_1, idxX.eq_1, slX.eq_1, tupX.eq_1, lstX.eq_1, iterX.eq_1, lcX.eq_1, consX.eq_1, consX.eq_2, consB.eq_1, oX.eq_1, thn.eq_1, thn.eq_2, thn.eq_3, asgX.eq_1, asgX.eq_2, unpX.eq_1, unpX.eq_2, parX.eq_1, augX.eq_1, retvX.eq_1, rtX.eq_1, rtX.eq_2, iffX.eq_1, iffX.eq_2, putX.eq_1, ownX.eq_1, appX.eq_1, appX.eq_2, popX.eq_1, mapX.eq_1, frz, frzAt, aft, asI, asB, asT, asTL.eq_1, asTL.eq_2, asL, fl_t, fl_l, fl_d, fl_i, fl_b, fl_n, fl_tp, fa_nil, fa_cons, fa_tp, fa_int, ks_l, ks_lz, ks_t, ks_i, ks_b, ks_n, ks_d, ks_tp, aftR, sc_l, sc_t, sc_i, sc_b, sc_n, outV, ty_ii, ty_bi, ty_ll, ty_tt, ty_bb, ty_ib, ty_lt, ty_li, ty_ls, ty_ss, ty_sl, ty_st, bindT, setMany, setL, intAt, catL, cm_lt, cm_le, cm_gt, cm_ge, cm_eqi, cm_nei, op_add, op_sub, op_mul, op_fdiv, op_mod, ix_t0, ix_t1, ix_t2, scal_tp, pow_ok, len_l, len_t, len_s, xb_abs, xb_max2, xb_min2, xb_list, xb_listT, xb_intb, xb_inti, xb_min, xb_max, it_seq, it_seqT, it_seqS, it_enum, it_zip, it_rev, ix_p0, ix_p1, i2, e1, e2, e3, e4]
  rfl
def mx : Option Rat → List Rat → Option Rat
  | m, [] => m
  | none, v :: l => mx (some v) l
  | some m, v :: l => mx (some (if m < v then v else m)) l
def st (m : Option Rat) (v : Rat) : Option Rat := match m with
  | none => some v
  | some m => some (if m < v then v else m)
theorem mx_foldl : ∀ (l : List Rat) (m : Option Rat), mx m l = l.foldl st m
  | [], _ => by cases ‹Option Rat› <;> rfl
  | v :: l, none => by rw [List.foldl_cons]; exact mx_foldl l _
  | v :: l, some m => by rw [List.foldl_cons]; exact mx_foldl l _
def mD : Option Rat → D
  | none => .none
  | some x => tp (N x)
theorem isn_n : cm .isn .none .none = some true := rfl
theorem isn_t (p : P) : cm .isn (tp p) .none = some false := rfl
theorem sc_mD (m : Option Rat) (o : Bool) : varX (some (some (mD m, false))) = some (mD m, .z) := rfl
theorem e_height_at {Φ : Ph} (h : Impl Φ "height_at" f_height_at) (hp : Impl Φ "plane_height" f_plane_height) (hl : Impl Φ "less" f_less) (pp : Bf Φ "plus" (· + ·)) (tt : Bf Φ "times" (· * ·)) {n m : Nat} {x y : Rat} (hx : sz n x) (hy : sz n y) {ps : List Pl} (g : ∀ p ∈ ps, gq m p) (k : 2 * (2 * n + m + 20) + 1 ≤ 8000) :
    Φ "height_at" [.list (ps.map pl), .tuple [tp (N x), tp (N y)]] = some (mD ((ps.map (hgt x y)).foldl st none), false) := by
  rw [h, ev_f _ rfl]
  simp [f_height_at, init, ev_var, ev_brw, ev_cst, ev_bin, ev_neg, ev_not, ev_cmp, ev_and, ev_or, ev_ite, ev_call, ev_bi, ev_isi, ev_idx, ev_sl, ev_tup, ev_lst, ev_lc, evs_nil, evs_cons, evb_nil, evb_cons, evo_nil, evo_cons, ex_nil, ex_pass, ex_brk, ex_cons, ex_asg, ex_unp, ex_par, ex_aug, ex_ret, ex_retv, ex_iff, ex_for, ex_forc, forcX.eq_1, ex_whl, ex_app, ex_seti, ev_dnew, ev_dnewI, setkX.eq_1, setiX.eq_1, setiX.eq_2, ex_try, ex_hnd, phX.eq_1, try_exc, try_l, try_t, tryO_nil, tryO_one, hnd_eq, hndE.eq_1, hndE.eq_2, ex_pop, ex_clr, ex_revl, varX.eq_1, varX.eq_2, brwX.eq_1, binX.eq_1, negX.eq_1, notX.eq_1, cmpX.eq_1, boX.eq_1, andX.eq_1, andX.eq_2, orX.eq_1, orX.eq_2, iteX.eq_1, iteX.eq_2, retX.eq_1, retX.eq_2, callX.eq_1, biX.eq_1, isiX.eq_1, idxX.eq_1, slX.eq_1, tupX.eq_1, lstX.eq_1, iterX.eq_1, lcX.eq_1, consX.eq_1, consX.eq_2, consB.eq_1, oX.eq_1, thn.eq_1, thn.eq_2, thn.eq_3, asgX.eq_1, asgX.eq_2, unpX.eq_1, unpX.eq_2, parX.eq_1, augX.eq_1, retvX.eq_1, rtX.eq_1, rtX.eq_2, iffX.eq_1, iffX.eq_2, putX.eq_1, ownX.eq_1, appX.eq_1, appX.eq_2, popX.eq_1, mapX.eq_1, frz, frzAt, aft, asI, asB, asT, asTL.eq_1, asTL.eq_2, asL, fl_t, fl_l, fl_d, fl_i, fl_b, fl_n, fl_tp, fa_nil, fa_cons, fa_tp, fa_int, ks_l, ks_lz, ks_t, ks_i, ks_b, ks_n, ks_d, ks_tp, aftR, sc_l, sc_t, sc_i, sc_b, sc_n, outV, ty_ii, ty_bi, ty_ll, ty_tt, ty_bb, ty_ib, ty_lt, ty_li, ty_ls, ty_ss, ty_sl, ty_st, bindT, setMany, setL, intAt, catL, cm_lt, cm_le, cm_gt, cm_ge, cm_eqi, cm_nei, op_add, op_sub, op_mul, op_fdiv, op_mod, ix_t0, ix_t1, ix_t2, scal_tp, pow_ok, len_l, len_t, len_s, xb_abs, xb_max2, xb_min2, xb_list, xb_listT, xb_intb, xb_inti, xb_min, xb_max, it_seq, it_seqT, it_seqS, it_enum, it_zip, it_rev]
  refine fe_for (fun i ρ => ∃ (v : Option Rat) (x3 x4 : Slot), ρ = [some (.list (ps.map pl), false), some (.tuple [tp (N x), tp (N y)], false), some (mD v, false), x3, x4] ∧ v = ((ps.take i).map (hgt x y)).foldl st none ∧ ∀ z, v = some z → sz (2 * n + m + 14) z)
    ⟨none, none, none, rfl, rfl, by simp⟩ ?_ ?_
  · rintro i d ρ hd ⟨v, x3, x4, rfl, hv, hs⟩
    obtain ⟨p, hp1, rfl⟩ := map_at hd
    obtain ⟨e, s⟩ := e_ph hp pp tt hx hy (g p (List.mem_of_getElem? hp1)) (by omega)
    refine ⟨_, rfl, ?_⟩
    have nxt : ((ps.take (i + 1)).map (hgt x y)).foldl st none = st v (hgt x y p) := by
      rw [tk_snoc hp1, List.map_append, List.foldl_append, ← hv]; rfl
    generalize hJ : (fun ρ : Rho => ∃ (v : Option Rat) (x3 x4 : Slot), ρ = [some (.list (ps.map pl), false), some (.tuple [tp (N x), tp (N y)], false), some (mD v, false), x3, x4] ∧ v = ((ps.take (i + 1)).map (hgt x y)).foldl st none ∧ ∀ z, v = some z → sz (2 * n + m + 14) z) = J
    have fin : ∀ (w : Option Rat) (x3 x4 : Slot), w = st v (hgt x y p) → (∀ z, w = some z → sz (2 * n + m + 14) z) → J [some (.list (ps.map pl), false), some (.tuple [tp (N x), tp (N y)], false), some (mD w, false), x3, x4] := fun v x3 x4 e hz => by
      rw [← hJ]; exact ⟨v, x3, x4, rfl, by rw [nxt]; exact e, hz⟩
    cases v with
    | none =>
      simp [init, ev_var, ev_brw, ev_cst, ev_bin, ev_neg, ev_not, ev_cmp, ev_and, ev_or, ev_ite, ev_call, ev_bi, ev_isi, ev_idx, ev_sl, ev_tup, ev_lst, ev_lc, evs_nil, evs_cons, evb_nil, evb_cons, evo_nil, evo_cons, ex_nil, ex_pass, ex_brk, ex_cons, ex_asg, ex_unp, ex_par, ex_aug, ex_ret, ex_retv, ex_iff, ex_for, ex_forc, forcX.eq_1, ex_whl, ex_app, ex_seti, ev_dnew, ev_dnewI, setkX.eq_1, setiX.eq_1, setiX.eq_2, ex_try, ex_hnd, phX.eq_1, try_exc, try_l, try_t, tryO_nil, tryO_one, hnd_eq, hndE.eq_1, hndE.eq_2, ex_pop, ex_clr, ex_revl, varX.eq_1, varX.eq_2, brwX.eq_1, binX.eq_1, negX.eq_1, notX.eq_1, cmpX.eq_1, boX.eq_1, andX.eq_1, andX.eq_2, orX.eq_1, orX.eq_2, iteX.eq_1, iteX.eq_2, retX.eq_1, retX.eq_2, callX.eq_1, biX.eq_1, isiX.eq_1, idxX.eq_1, slX.eq_1, tupX.eq_1, lstX.eq_1, iterX.eq_1, lcX.eq_1, consX.eq_1, consX.eq_2, consB.eq_1, oX.eq_1, thn.eq_1, thn.eq_2, thn.eq_3, asgX.eq_1, asgX.eq_2, unpX.eq_1, unpX.eq_2, parX.eq_1, augX.eq_1, retvX.eq_1, rtX.eq_1, rtX.eq_2, iffX.eq_1, iffX.eq_2, putX.eq_1, ownX.eq_1, appX.eq_1, appX.eq_2, popX.eq_1, mapX.eq_1, frz, frzAt, aft, asI, asB, asT, asTL.eq_1, asTL.eq_2, asL, fl_t, fl_l, fl_d, fl_i, fl_b, fl_n, fl_tp, fa_nil, fa_cons, fa_tp, fa_int, ks_l, ks_lz, ks_t, ks_i, ks_b, ks_n, ks_d, ks_tp, aftR, sc_l, sc_t, sc_i, sc_b, sc_n, outV, ty_ii, ty_bi, ty_ll, ty_tt, ty_bb, ty_ib, ty_lt, ty_li, ty_ls, ty_ss, ty_sl, ty_st, bindT, setMany, setL, intAt, catL, cm_lt, cm_le, cm_gt, cm_ge, cm_eqi, cm_nei, op_add, op_sub, op_mul, op_fdiv, op_mod, ix_t0, ix_t1, ix_t2, scal_tp, pow_ok, len_l, len_t, len_s, xb_abs, xb_max2, xb_min2, xb_list, xb_listT, xb_intb, xb_inti, xb_min, xb_max, it_seq, it_seqT, it_seqS, it_enum, it_zip, it_rev, e, mD, isn_n]
      exact Nx.mk (fin (some (hgt x y p)) _ _ rfl fun z hz => by cases hz; exact s)
    | some v =>
      have el := e_less hl (hs v rfl) s (by omega)
      by_cases c : v < hgt x y p
      · simp [init, ev_var, ev_brw, ev_cst, ev_bin, ev_neg, ev_not, ev_cmp, ev_and, ev_or, ev_ite, ev_call, ev_bi, ev_isi, ev_idx, ev_sl, ev_tup, ev_lst, ev_lc, evs_nil, evs_cons, evb_nil, evb_cons, evo_nil, evo_cons, ex_nil, ex_pass, ex_brk, ex_cons, ex_asg, ex_unp, ex_par, ex_aug, ex_ret, ex_retv, ex_iff, ex_for, ex_forc, forcX.eq_1, ex_whl, ex_app, ex_seti, ev_dnew, ev_dnewI, setkX.eq_1, setiX.eq_1, setiX.eq_2, ex_try, ex_hnd, phX.eq_1, try_exc, try_l, try_t, tryO_nil, tryO_one, hnd_eq, hndE.eq_1, hndE.eq_2, ex_pop, ex_clr, ex_revl, varX.eq_1, varX.eq_2, brwX.eq_1, binX.eq_1, negX.eq_1, notX.eq_1, cmpX.eq_1, boX.eq_1, andX.eq_1, andX.eq_2, orX.eq_1, orX.eq_2, iteX.eq_1, iteX.eq_2, retX.eq_1, retX.eq_2, callX.eq_1, biX.eq_1, isiX.eq_1, idxX.eq_1, slX.eq_1, tupX.eq_1, lstX.eq_1, iterX.eq_1, lcX.eq_1, consX.eq_1, consX.eq_2, consB.eq_1, oX.eq_1, thn.eq_1, thn.eq_2, thn.eq_3, asgX.eq_1, asgX.eq_2, unpX.eq_1, unpX.eq_2, parX.eq_1, augX.eq_1, retvX.eq_1, rtX.eq_1, rtX.eq_2, iffX.eq_1, iffX.eq_2, putX.eq_1, ownX.eq_1, appX.eq_1, appX.eq_2, popX.eq_1, mapX.eq_1, frz, frzAt, aft, asI, asB, asT, asTL.eq_1, asTL.eq_2, asL, fl_t, fl_l, fl_d, fl_i, fl_b, fl_n, fl_tp, fa_nil, fa_cons, fa_tp, fa_int, ks_l, ks_lz, ks_t, ks_i, ks_b, ks_n, ks_d, ks_tp, aftR, sc_l, sc_t, sc_i, sc_b, sc_n, outV, ty_ii, ty_bi, ty_ll, ty_tt, ty_bb, ty_ib, ty_lt, ty_li, ty_ls, ty_ss, ty_sl, ty_st, bindT, setMany, setL, intAt, catL, cm_lt, cm_le, cm_gt, cm_ge, cm_eqi, cm_nei, op_add, op_sub, op_mul, op_fdiv, op_mod, ix_t0, ix_t1, ix_t2, scal_tp, pow_ok, len_l, len_t, len_s, xb_abs, xb_max2, xb_min2, xb_list, xb_listT, xb_intb, xb_inti, xb_min, xb_max, it_seq, it_seqT, it_seqS, it_enum, it_zip, it_rev, e, mD, isn_t, el, c]
        exact Nx.mk (fin (some (hgt x y p)) _ _ (by simp [st, c]) fun z hz => by cases hz; exact s)
      · simp [init, ev_var, ev_brw, ev_cst, ev_bin, ev_neg, ev_not, ev_cmp, ev_and, ev_or, ev_ite, ev_call, ev_bi, ev_isi, ev_idx, ev_sl, ev_tup, ev_lst, ev_lc, evs_nil, evs_cons, evb_nil, evb_cons, evo_nil, evo_cons, ex_nil, ex_pass, ex_brk, ex_cons, ex_asg, ex_unp, ex_par, ex_aug, ex_ret, ex_retv, ex_iff, ex_for, ex_forc, forcX.eq_1, ex_whl, ex_app, ex_seti, ev_dnew, ev_dnewI, setkX.eq_1, setiX.eq_1, setiX.eq_2, ex_try, ex_hnd, phX.eq_1, try_exc, try_l, try_t, tryO_nil, tryO_one, hnd_eq, hndE.eq_1, hndE.eq_2, ex_pop, ex_clr, ex_revl, varX.eq_1, varX.eq_2, brwX.eq_1, binX.eq_1, negX.eq_1, notX.eq_1, cmpX.eq_1, boX.eq_1, andX.eq_1, andX.eq_2, orX.eq_1, orX.eq_2, iteX.eq_1, iteX.eq_2, retX.eq_1, retX.eq_2, callX.eq_1, biX.eq_1, isiX.eq_1, idxX.eq_1, slX.eq_1, tupX.eq_1, lstX.eq_1, iterX.eq_1, lcX.eq_1, consX.eq_1, consX.eq_2, consB.eq_1, oX.eq_1, thn.eq_1, thn.eq_2, thn.eq_3, asgX.eq_1, asgX.eq_2, unpX.eq_1, unpX.eq_2, parX.eq_1, augX.eq_1, retvX.eq_1, rtX.eq_1, rtX.eq_2, iffX.eq_1, iffX.eq_2, putX.eq_1, ownX.eq_1, appX.eq_1, appX.eq_2, popX.eq_1, mapX.eq_1, frz, frzAt, aft, asI, asB, asT, asTL.eq_1, asTL.eq_2, asL, fl_t, fl_l, fl_d, fl_i, fl_b, fl_n, fl_tp, fa_nil, fa_cons, fa_tp, fa_int, ks_l, ks_lz, ks_t, ks_i, ks_b, ks_n, ks_d, ks_tp, aftR, sc_l, sc_t, sc_i, sc_b, sc_n, outV, ty_ii, ty_bi, ty_ll, ty_tt, ty_bb, ty_ib, ty_lt, ty_li, ty_ls, ty_ss, ty_sl, ty_st, bindT, setMany, setL, intAt, catL, cm_lt, cm_le, cm_gt, cm_ge, cm_eqi, cm_nei, op_add, op_sub, op_mul, op_fdiv, op_mod, ix_t0, ix_t1, ix_t2, scal_tp, pow_ok, len_l, len_t, len_s, xb_abs, xb_max2, xb_min2, xb_list, xb_listT, xb_intb, xb_inti, xb_min, xb_max, it_seq, it_seqT, it_seqS, it_enum, it_zip, it_rev, e, mD, isn_t, el, c]
        exact Nx.mk (fin (some v) _ _ (by simp [st, c]) fun z hz => by cases hz; exact hs _ rfl)
  · rintro ρ ⟨v, x3, x4, rfl, hv, hs⟩
    rw [List.length_map, List.take_length] at hv
    simp [init, ev_var, ev_brw, ev_cst, ev_bin, ev_neg, ev_not, ev_cmp, ev_and, ev_or, ev_ite, ev_call, ev_bi, ev_isi, ev_idx, ev_sl, ev_tup, ev_lst, ev_lc, evs_nil, evs_cons, evb_nil, evb_cons, evo_nil, evo_cons, ex_nil, ex_pass, ex_brk, ex_cons, ex_asg, ex_unp, ex_par, ex_aug, ex_ret, ex_retv, ex_iff, ex_for, ex_forc, forcX.eq_1, ex_whl, ex_app, ex_seti, ev_dnew, ev_dnewI, setkX.eq_1, setiX.eq_1, setiX.eq_2, ex_try, ex_hnd, phX.eq_1, try_exc, try_l, try_t, tryO_nil, tryO_one, hnd_eq, hndE.eq_1, hndE.eq_2, ex_pop, ex_clr, ex_revl, varX.eq_1, varX.eq_2, brwX.eq_1, binX.eq_1, negX.eq_1, notX.eq_1, cmpX.eq_1, boX.eq_1, andX.eq_1, andX.eq_2, orX.eq_1, orX.eq_2, iteX.eq_1, iteX.eq_2, retX.eq_1, retX.eq_2, callX.eq_1, biX.eq_1, isiX.eq_1, idxX.eq_1, slX.eq_1, tupX.eq_1, lstX.eq_1, iterX.eq_1, lcX.eq_1, consX.eq_1, consX.eq_2, consB.eq_1, oX.eq_1, thn.eq_1, thn.eq_2, thn.eq_3, asgX.eq_1, asgX.eq_2, unpX.eq_1, unpX.eq_2, parX.eq_1, augX.eq_1, retvX.eq_1, rtX.eq_1, rtX.eq_2, iffX.eq_1, iffX.eq_2, putX.eq_1, ownX.eq_1, appX.eq_1, appX.eq_2, popX.eq_1, mapX.eq_1, frz, frzAt, aft, asI, asB, asT, asTL.eq_1, asTL.eq_2, asL, fl_t, fl_l, fl_d, fl_i, fl_b, fl_n, fl_tp, fa_nil, fa_cons, fa_tp, fa_int, ks_l, ks_lz, ks_t, ks_i, ks_b, ks_n, ks_d, ks_tp, aftR, sc_l, sc_t, sc_i, sc_b, sc_n, outV, ty_ii, ty_bi, ty_ll, ty_tt, ty_bb, ty_ib, ty_lt, ty_li, ty_ls, ty_ss, ty_sl, ty_st, bindT, setMany, setL, intAt, catL, cm_lt, cm_le, cm_gt, cm_ge, cm_eqi, cm_nei, op_add, op_sub, op_mul, op_fdiv, op_mod, ix_t0, ix_t1, ix_t2, scal_tp, pow_ok, len_l, len_t, len_s, xb_abs, xb_max2, xb_min2, xb_list, xb_listT, xb_intb, xb_inti, xb_min, xb_max, it_seq, it_seqT, it_seqS, it_enum, it_zip, it_rev, hv]
theorem e_moved {Φ : Ph} (h : Impl Φ "moved" f_moved) (lo : Lo Φ "fraction") (pp : Bf Φ "plus" (· + ·)) (tt : Bf Φ "times" (· * ·)) (mm : Bf Φ "minus" (· - ·)) {n m : Nat} {x y : Rat} (hx : sz n x) (hy : sz n y) {ps : List Pl} (hl : ps.length ≤ 4000) (g : ∀ p ∈ ps, gq m p) (k : 2 * n + m + 20 ≤ 8000) :
    Φ "moved" [.list (ps.map pl), .tuple [tp (N x), tp (N y)]] = some (.list ((ps.map (mov x y)).map pl), true) ∧ ∀ q ∈ ps.map (mov x y), gq (2 * n + m + 14) q := by
  have tn : Φ "times" = Φ "times" := rfl
  have facts : ∀ p ∈ ps, Φ "fraction" [.int p.i, .int 1] = some (tp (N p.i), false) ∧ Φ "fraction" [.int p.j, .int 1] = some (tp (N p.j), false) ∧ Φ "times" [tp (N p.i), tp (N x)] = some (tp (N (p.i * x)), false) ∧ Φ "times" [tp (N p.j), tp (N y)] = some (tp (N (p.j * y)), false) ∧ Φ "plus" [tp (N (p.i * x)), tp (N (p.j * y))] = some (tp (N (acr x y p)), false) ∧ Φ "minus" [tp (N (val p)), tp (N (acr x y p))] = some (tp (N (val p - acr x y p)), false) ∧ sz (2 * n + m + 14) (val p - acr x y p) := fun p hp => by
    have gg := g p hp
    obtain ⟨a1, _⟩ := lo p.i 1 5 gg.i (bd_of (by decide)) (by decide) (by decide)
    obtain ⟨a2, _⟩ := lo p.j 1 5 gg.j (bd_of (by decide)) (by decide) (by decide)
    obtain ⟨e1, s1⟩ := tt _ _ _ _ (sz_i gg.i) hx (by omega)
    obtain ⟨e2, s2⟩ := tt _ _ _ _ (sz_i gg.j) hy (by omega)
    obtain ⟨e3, s3⟩ := pp _ _ _ _ s1 s2 (by omega)
    obtain ⟨e4, s4⟩ := mm _ _ _ _ gg.sz s3 (by omega)
    have c : ∀ i : Int, Rat.divInt i 1 = (i : Rat) := fun i => N_self (i : Rat)
    rw [c] at a1 a2
    exact ⟨a1, a2, e1, e2, e3, e4, sz_mono s4 (by omega)⟩
  constructor
  · rw [h, ev_f _ rfl]
    simp [f_moved, init, ev_var, ev_brw, ev_cst, ev_bin, ev_neg, ev_not, ev_cmp, ev_and, ev_or, ev_ite, ev_call, ev_bi, ev_isi, ev_idx, ev_sl, ev_tup, ev_lst, ev_lc, evs_nil, evs_cons, evb_nil, evb_cons, evo_nil, evo_cons, ex_nil, ex_pass, ex_brk, ex_cons, ex_asg, ex_unp, ex_par, ex_aug, ex_ret, ex_retv, ex_iff, ex_for, ex_forc, forcX.eq_1, ex_whl, ex_app, ex_seti, ev_dnew, ev_dnewI, setkX.eq_1, setiX.eq_1, setiX.eq_2, ex_try, ex_hnd, phX.eq_1, try_exc, try_l, try_t, tryO_nil, tryO_one, hnd_eq, hndE.eq_1, hndE.eq_2, ex_pop, ex_clr, ex_revl, varX.eq_1, varX.eq_2, brwX.eq_1, binX.eq_1, negX.eq_1, notX.eq_1, cmpX.eq_1, boX.eq_1, andX.eq_1, andX.eq_2, orX.eq_1, orX.eq_2, iteX.eq_1, iteX.eq_2, retX.eq_1, retX.eq_2, callX.eq_1, biX.eq_1, isiX.eq_1, idxX.eq_1, slX.eq_1, tupX.eq_1, lstX.eq_1, iterX.eq_1, lcX.eq_1, consX.eq_1, consX.eq_2, consB.eq_1, oX.eq_1, thn.eq_1, thn.eq_2, thn.eq_3, asgX.eq_1, asgX.eq_2, unpX.eq_1, unpX.eq_2, parX.eq_1, augX.eq_1, retvX.eq_1, rtX.eq_1, rtX.eq_2, iffX.eq_1, iffX.eq_2, putX.eq_1, ownX.eq_1, appX.eq_1, appX.eq_2, popX.eq_1, mapX.eq_1, frz, frzAt, aft, asI, asB, asT, asTL.eq_1, asTL.eq_2, asL, fl_t, fl_l, fl_d, fl_i, fl_b, fl_n, fl_tp, fa_nil, fa_cons, fa_tp, fa_int, ks_l, ks_lz, ks_t, ks_i, ks_b, ks_n, ks_d, ks_tp, aftR, sc_l, sc_t, sc_i, sc_b, sc_n, outV, ty_ii, ty_bi, ty_ll, ty_tt, ty_bb, ty_ib, ty_lt, ty_li, ty_ls, ty_ss, ty_sl, ty_st, bindT, setMany, setL, intAt, catL, cm_lt, cm_le, cm_gt, cm_ge, cm_eqi, cm_nei, op_add, op_sub, op_mul, op_fdiv, op_mod, ix_t0, ix_t1, ix_t2, scal_tp, pow_ok, len_l, len_t, len_s, xb_abs, xb_max2, xb_min2, xb_list, xb_listT, xb_intb, xb_inti, xb_min, xb_max, it_seq, it_seqT, it_seqS, it_enum, it_zip, it_rev, -List.map_map]
    refine fe_for (fun i ρ => ∃ (qs : List Pl) (x3 x4 x5 x6 : Slot), ρ = [some (.list (ps.map pl), false), some (.tuple [tp (N x), tp (N y)], false), some (.list (qs.map pl), true), x3, x4, x5, x6] ∧ qs = (ps.take i).map (mov x y) ∧ qs.length = i)
      ⟨[], none, none, none, none, rfl, rfl, rfl⟩ ?_ ?_
    · rintro i d ρ hd ⟨qs, x3, x4, x5, x6, rfl, hq, hi⟩
      obtain ⟨p, hp1, rfl⟩ := map_at hd
      obtain ⟨a1, a2, e1, e2, e3, e4, _⟩ := facts p (List.mem_of_getElem? hp1)
      have hp3 := (g p (List.mem_of_getElem? hp1)).N
      have li : i < ps.length := (List.getElem?_eq_some_iff.mp hp1).1
      have ll : qs.length < lim := by unfold lim; omega
      refine ⟨[some (.list (ps.map pl), false), some (.tuple [tp (N x), tp (N y)], false), some (.list (qs.map pl), true), some (.int p.i, false), some (.int p.j, false), some (tp (N (val p)), false), x6], by rw [← hp3]; rfl, ?_⟩
      generalize hJ : (fun ρ : Rho => ∃ (qs : List Pl) (x3 x4 x5 x6 : Slot), ρ = [some (.list (ps.map pl), false), some (.tuple [tp (N x), tp (N y)], false), some (.list (qs.map pl), true), x3, x4, x5, x6] ∧ qs = (ps.take (i + 1)).map (mov x y) ∧ qs.length = i + 1) = J
      simp [init, ev_var, ev_brw, ev_cst, ev_bin, ev_neg, ev_not, ev_cmp, ev_and, ev_or, ev_ite, ev_call, ev_bi, ev_isi, ev_idx, ev_sl, ev_tup, ev_lst, ev_lc, evs_nil, evs_cons, evb_nil, evb_cons, evo_nil, evo_cons, ex_nil, ex_pass, ex_brk, ex_cons, ex_asg, ex_unp, ex_par, ex_aug, ex_ret, ex_retv, ex_iff, ex_for, ex_forc, forcX.eq_1, ex_whl, ex_app, ex_seti, ev_dnew, ev_dnewI, setkX.eq_1, setiX.eq_1, setiX.eq_2, ex_try, ex_hnd, phX.eq_1, try_exc, try_l, try_t, tryO_nil, tryO_one, hnd_eq, hndE.eq_1, hndE.eq_2, ex_pop, ex_clr, ex_revl, varX.eq_1, varX.eq_2, brwX.eq_1, binX.eq_1, negX.eq_1, notX.eq_1, cmpX.eq_1, boX.eq_1, andX.eq_1, andX.eq_2, orX.eq_1, orX.eq_2, iteX.eq_1, iteX.eq_2, retX.eq_1, retX.eq_2, callX.eq_1, biX.eq_1, isiX.eq_1, idxX.eq_1, slX.eq_1, tupX.eq_1, lstX.eq_1, iterX.eq_1, lcX.eq_1, consX.eq_1, consX.eq_2, consB.eq_1, oX.eq_1, thn.eq_1, thn.eq_2, thn.eq_3, asgX.eq_1, asgX.eq_2, unpX.eq_1, unpX.eq_2, parX.eq_1, augX.eq_1, retvX.eq_1, rtX.eq_1, rtX.eq_2, iffX.eq_1, iffX.eq_2, putX.eq_1, ownX.eq_1, appX.eq_1, appX.eq_2, popX.eq_1, mapX.eq_1, frz, frzAt, aft, asI, asB, asT, asTL.eq_1, asTL.eq_2, asL, fl_t, fl_l, fl_d, fl_i, fl_b, fl_n, fl_tp, fa_nil, fa_cons, fa_tp, fa_int, ks_l, ks_lz, ks_t, ks_i, ks_b, ks_n, ks_d, ks_tp, aftR, sc_l, sc_t, sc_i, sc_b, sc_n, outV, ty_ii, ty_bi, ty_ll, ty_tt, ty_bb, ty_ib, ty_lt, ty_li, ty_ls, ty_ss, ty_sl, ty_st, bindT, setMany, setL, intAt, catL, cm_lt, cm_le, cm_gt, cm_ge, cm_eqi, cm_nei, op_add, op_sub, op_mul, op_fdiv, op_mod, ix_t0, ix_t1, ix_t2, scal_tp, pow_ok, len_l, len_t, len_s, xb_abs, xb_max2, xb_min2, xb_list, xb_listT, xb_intb, xb_inti, xb_min, xb_max, it_seq, it_seqT, it_seqS, it_enum, it_zip, it_rev, a1, a2, e1, e2, e3, e4, ll]
      refine Nx.mk ?_
      rw [← hJ]
      exact ⟨qs ++ [mov x y p], _, _, _, _, by rw [List.map_append]; rfl, by rw [tk_snoc hp1, List.map_append, hq]; rfl, by simp [hi]⟩
    · rintro ρ ⟨qs, x3, x4, x5, x6, rfl, hq, _⟩
      rw [List.length_map, List.take_length] at hq
      simp [init, ev_var, ev_brw, ev_cst, ev_bin, ev_neg, ev_not, ev_cmp, ev_and, ev_or, ev_ite, ev_call, ev_bi, ev_isi, ev_idx, ev_sl, ev_tup, ev_lst, ev_lc, evs_nil, evs_cons, evb_nil, evb_cons, evo_nil, evo_cons, ex_nil, ex_pass, ex_brk, ex_cons, ex_asg, ex_unp, ex_par, ex_aug, ex_ret, ex_retv, ex_iff, ex_for, ex_forc, forcX.eq_1, ex_whl, ex_app, ex_seti, ev_dnew, ev_dnewI, setkX.eq_1, setiX.eq_1, setiX.eq_2, ex_try, ex_hnd, phX.eq_1, try_exc, try_l, try_t, tryO_nil, tryO_one, hnd_eq, hndE.eq_1, hndE.eq_2, ex_pop, ex_clr, ex_revl, varX.eq_1, varX.eq_2, brwX.eq_1, binX.eq_1, negX.eq_1, notX.eq_1, cmpX.eq_1, boX.eq_1, andX.eq_1, andX.eq_2, orX.eq_1, orX.eq_2, iteX.eq_1, iteX.eq_2, retX.eq_1, retX.eq_2, callX.eq_1, biX.eq_1, isiX.eq_1, idxX.eq_1, slX.eq_1, tupX.eq_1, lstX.eq_1, iterX.eq_1, lcX.eq_1, consX.eq_1, consX.eq_2, consB.eq_1, oX.eq_1, thn.eq_1, thn.eq_2, thn.eq_3, asgX.eq_1, asgX.eq_2, unpX.eq_1, unpX.eq_2, parX.eq_1, augX.eq_1, retvX.eq_1, rtX.eq_1, rtX.eq_2, iffX.eq_1, iffX.eq_2, putX.eq_1, ownX.eq_1, appX.eq_1, appX.eq_2, popX.eq_1, mapX.eq_1, frz, frzAt, aft, asI, asB, asT, asTL.eq_1, asTL.eq_2, asL, fl_t, fl_l, fl_d, fl_i, fl_b, fl_n, fl_tp, fa_nil, fa_cons, fa_tp, fa_int, ks_l, ks_lz, ks_t, ks_i, ks_b, ks_n, ks_d, ks_tp, aftR, sc_l, sc_t, sc_i, sc_b, sc_n, outV, ty_ii, ty_bi, ty_ll, ty_tt, ty_bb, ty_ib, ty_lt, ty_li, ty_ls, ty_ss, ty_sl, ty_st, bindT, setMany, setL, intAt, catL, cm_lt, cm_le, cm_gt, cm_ge, cm_eqi, cm_nei, op_add, op_sub, op_mul, op_fdiv, op_mod, ix_t0, ix_t1, ix_t2, scal_tp, pow_ok, len_l, len_t, len_s, xb_abs, xb_max2, xb_min2, xb_list, xb_listT, xb_intb, xb_inti, xb_min, xb_max, it_seq, it_seqT, it_seqS, it_enum, it_zip, it_rev, hq, -List.map_map]
  · intro q hq
    obtain ⟨p, hp, rfl⟩ := List.mem_map.mp hq
    exact gq_mk (g p hp).i (g p hp).j (facts p hp).2.2.2.2.2.2
end K33.Q

set_option Elab.async false
set_option linter.all false
set_option maxRecDepth 100000
/-! Fn_k01: the codes of the defs. -/
namespace K01
open PySem Pv
def f__law_divisor : Fn := ⟨2, 3, (.cons (.asg 0 [] (.bi .abs (.cons (.brw 0) .nil))) (.cons (.asg 1 [] (.bi .abs (.cons (.brw 1) .nil))) (.cons (.whl (.cmp .gt (.brw 1) (.cst (.int 0))) (.cons (.asg 2 [] (.bin .mod (.brw 0) (.brw 1))) (.cons (.asg 0 [] (.var 1)) (.cons (.asg 1 [] (.var 2)) .nil)))) (.cons (.retv 0) .nil))))⟩
def f__law_whole : Fn := ⟨1, 1, (.cons (.ret [] (.and (.isi .int (.brw 0)) (.not (.isi .bool (.brw 0))))) .nil)⟩
def f__law_is_fraction : Fn := ⟨1, 1, (.cons (.iff [] (.or (.not (.isi .tuple (.brw 0))) (.cmp .ne (.bi .len (.cons (.brw 0) .nil)) (.cst (.int 2)))) (.cons (.ret [] (.cst (.bool false))) .nil) .nil) (.cons (.iff [] (.or (.not (.call "_law_whole" (.cons (.idx (.brw 0) (.cst (.int 0))) .nil))) (.or (.not (.call "_law_whole" (.cons (.idx (.brw 0) (.cst (.int 1))) .nil))) (.cmp .lt (.idx (.brw 0) (.cst (.int 1))) (.cst (.int 1))))) (.cons (.ret [] (.cst (.bool false))) .nil) .nil) (.cons (.ret [] (.cmp .eq (.call "_law_divisor" (.cons (.idx (.brw 0) (.cst (.int 0))) (.cons (.idx (.brw 0) (.cst (.int 1))) .nil))) (.cst (.int 1)))) .nil)))⟩
def f__law_is : Fn := ⟨3, 3, (.cons (.ret [] (.and (.call "_law_is_fraction" (.cons (.var 0) .nil)) (.cmp .eq (.bin .mul (.idx (.brw 0) (.cst (.int 0))) (.brw 2)) (.bin .mul (.brw 1) (.idx (.brw 0) (.cst (.int 1))))))) .nil)⟩
def f_divisor : Fn := ⟨2, 3, (.cons (.asg 0 [] (.bi .abs (.cons (.brw 0) .nil))) (.cons (.asg 1 [] (.bi .abs (.cons (.brw 1) .nil))) (.cons (.whl (.cmp .ne (.brw 1) (.cst (.int 0))) (.cons (.asg 2 [] (.bin .mod (.brw 0) (.brw 1))) (.cons (.asg 0 [] (.var 1)) (.cons (.asg 1 [] (.var 2)) .nil)))) (.cons (.retv 0) .nil))))⟩
def f_fraction : Fn := ⟨2, 3, (.cons (.iff [] (.cmp .eq (.brw 1) (.cst (.int 0))) (.cons .never .nil) .nil) (.cons (.asg 2 [] (.call "divisor" (.cons (.var 0) (.cons (.var 1) .nil)))) (.cons (.iff [] (.cmp .lt (.brw 1) (.cst (.int 0))) (.cons (.asg 2 [] (.neg (.brw 2))) .nil) .nil) (.cons (.ret [] (.tup (.cons (.bin .fdiv (.brw 0) (.brw 2)) (.cons (.bin .fdiv (.brw 1) (.brw 2)) .nil)))) .nil))))⟩
def f__law_cell_at : Fn := ⟨2, 3, (.cons (.asg 2 [] (.cst (.int 0))) (.cons (.iff [] (.cmp .lt (.brw 1) (.bi .len (.cons (.brw 0) .nil))) (.cons (.asg 2 [] (.bin .mod (.idx (.brw 0) (.brw 1)) (.bin .pow (.cst (.int 10)) (.cst (.int 60))))) .nil) .nil) (.cons (.ret [] (.bin .add (.bin .mul (.brw 2) (.cst (.int 1000003))) (.bin .mod (.bin .mul (.bin .mod (.bin .mul (.bin .add (.bin .add (.bin .add (.brw 2) (.bin .mul (.bin .mul (.cst (.int 7)) (.brw 1)) (.brw 1))) (.bin .mul (.cst (.int 13)) (.brw 1))) (.cst (.int 5))) (.cst (.int 48271))) (.cst (.int 2147483647))) (.cst (.int 69621))) (.cst (.int 1000000007))))) .nil)))⟩
def fR_fraction : Fn := ⟨2, 3, (.cons (.iff [] (.cmp .eq (.brw 1) (.cst (.int 0))) (.cons (.ret [] (.cst (excD "NoFraction"))) .nil) .nil) (.cons (.asg 2 [] (.call "divisor" (.cons (.var 0) (.cons (.var 1) .nil)))) (.cons (.iff [] (.cmp .lt (.brw 1) (.cst (.int 0))) (.cons (.asg 2 [] (.neg (.brw 2))) .nil) .nil) (.cons (.ret [] (.tup (.cons (.bin .fdiv (.brw 0) (.brw 2)) (.cons (.bin .fdiv (.brw 1) (.brw 2)) .nil)))) .nil))))⟩
def f__law_only : Fn := ⟨1, 2, (.cons (.ret [] (.lc (.nm 1) .range (.cons (.cst (.int 11)) .nil) (.cst (.bool true)) (.cmp .inn (.brw 1) (.tup (.cons (.cst (.int 0)) (.cons (.var 0) .nil)))))) .nil)⟩
def f__law_refused : Fn := ⟨1, 3, (.cons (.asg 1 [] (.cst .none)) (.cons (.tryx [] [] "!fraction" (.cons (.var 0) (.cons (.cst (.int 0)) .nil)) 2 (.hnd 2 "NoFraction" (.cons (.asg 1 [] (.lst (.cons (.cst (.bool true)) (.cons (.cst (.bool true)) (.cons (.cst (.bool false)) (.cons (.cst (.bool false)) (.cons (.cst (.bool false)) (.cons (.cst (.bool false)) (.cons (.cst (.bool false)) (.cons (.cst (.bool false)) (.cons (.cst (.bool false)) (.cons (.cst (.bool false)) (.cons (.cst (.bool false)) .nil))))))))))))) .nil) .never)) (.cons (.ret [] (.cmp .eq (.brw 1) (.call "_law_only" (.cons (.cst (.int 1)) .nil)))) .nil)))⟩
def f_law : Fn := ⟨1, 6, (.cons (.asg 1 [] (.bin .add (.cst (.int 1)) (.bin .mod (.bin .fdiv (.call "_law_cell_at" (.cons (.var 0) (.cons (.cst (.int 0)) .nil))) (.cst (.int 2))) (.idx (.lst (.cons (.cst (.int 12)) (.cons (.bin .sub (.bin .pow (.cst (.int 10)) (.cst (.int 30))) (.cst (.int 1))) .nil))) (.bin .mod (.call "_law_cell_at" (.cons (.var 0) (.cons (.cst (.int 0)) .nil))) (.cst (.int 2))))))) (.cons (.asg 2 [] (.idx (.lst (.cons (.cst (.int 12)) (.cons (.bin .sub (.bin .pow (.cst (.int 10)) (.cst (.int 30))) (.cst (.int 1))) .nil))) (.bin .mod (.call "_law_cell_at" (.cons (.var 0) (.cons (.cst (.int 3)) .nil))) (.cst (.int 2))))) (.cons (.asg 3 [] (.bin .mul (.brw 1) (.bin .sub (.bin .mod (.call "_law_cell_at" (.cons (.var 0) (.cons (.cst (.int 1)) .nil))) (.bin .add (.bin .mul (.cst (.int 2)) (.brw 2)) (.cst (.int 1)))) (.brw 2)))) (.cons (.asg 4 [] (.bin .mul (.brw 1) (.bin .sub (.bin .mod (.call "_law_cell_at" (.cons (.var 0) (.cons (.cst (.int 2)) .nil))) (.bin .add (.bin .mul (.cst (.int 2)) (.brw 2)) (.cst (.int 1)))) (.brw 2)))) (.cons (.iff [] (.cmp .eq (.brw 4) (.cst (.int 0))) (.cons (.asg 4 [] (.neg (.brw 1))) .nil) .nil) (.cons (.for_ (.nm 5) .range [] (.cons (.cst (.int 2)) .nil) (.cons (.iff [] (.or (.not (.call "_law_is" (.cons (.call "fraction" (.cons (.var 3) (.cons (.var 4) .nil))) (.cons (.var 3) (.cons (.var 4) .nil))))) (.not (.call "_law_is" (.cons (.call "fraction" (.cons (.var 4) (.cons (.var 1) .nil))) (.cons (.var 4) (.cons (.var 1) .nil)))))) (.cons (.ret [] (.cst (.bool false))) .nil) .nil) (.cons (.iff [] (.or (.not (.call "_law_refused" (.cons (.var 3) .nil))) (.not (.call "_law_refused" (.cons (.cst (.int 0)) .nil)))) (.cons (.ret [] (.cst (.bool false))) .nil) .nil) .nil))) (.cons (.ret [] (.call "_law_is" (.cons (.call "fraction" (.cons (.var 3) (.cons (.cst (.int 1)) .nil))) (.cons (.var 3) (.cons (.cst (.int 1)) .nil))))) .nil)))))))⟩
def tab : List (Str × Fn) := [(("law" : Str), f_law), (("_law_refused" : Str), f__law_refused), (("_law_only" : Str), f__law_only), (("!fraction" : Str), fR_fraction), (("_law_cell_at" : Str), f__law_cell_at), (("fraction" : Str), f_fraction), (("divisor" : Str), f_divisor), (("_law_is" : Str), f__law_is), (("_law_is_fraction" : Str), f__law_is_fraction), (("_law_whole" : Str), f__law_whole), (("_law_divisor" : Str), f__law_divisor)]
theorem tab_ok : tableOk tab = true := by kernel_rfl
end K01

set_option Elab.async false
set_option linter.all false
set_option maxRecDepth 100000
/-! L01: fractions made. -/
namespace K01.Q
open Pv K07 K33.Q
open PySem (PyData Str)
theorem e_cell {Φ : Ph} (h : Impl Φ "_law_cell_at" f__law_cell_at) (ns : List Int) (k : Nat) (hk : k ≤ 1000) : ∃ v : Int, Φ "_law_cell_at" [scr (ns.map .int), .int (k : Nat)] = some (.int v, false) ∧ 0 ≤ v ∧ bd 250 v := by
  have p60 : powOk 10 60 = true := by decide
  have bk : bd 10 (k : Int) := bd_of (by show ((k : Int)).natAbs < 1024; omega)
  have key : ∀ c : Int, 0 ≤ c → bd 200 c → 0 ≤ c * 1000003 + (((c + 7 * (k : Int) * (k : Int) + 13 * (k : Int) + 5) * 48271).fmod 2147483647 * 69621).fmod 1000000007 ∧ bd 250 (c * 1000003 + (((c + 7 * (k : Int) * (k : Int) + 13 * (k : Int) + 5) * 48271).fmod 2147483647 * 69621).fmod 1000000007) := fun c h0 hb => by
    have := Int.fmod_nonneg_of_pos (((c + 7 * (k : Int) * (k : Int) + 13 * (k : Int) + 5) * 48271).fmod 2147483647 * 69621) (show (0 : Int) < 1000000007 by decide)
    exact ⟨by omega, bd_mono (bd_add (bd_mul hb (bd_lit _)) (bd_fmod (bd_lit _) (by decide))) (by decide +kernel)⟩
  have ms : ∀ c : Int, bd 200 c → mulOk c 1000003 = true ∧ mulOk (c + 7 * (k : Int) * (k : Int) + 13 * (k : Int) + 5) 48271 = true := fun c hc => ⟨mulOk_r (bd_lit _) (by decide +kernel), mulOk_r (bd_lit _) (by decide +kernel)⟩
  have m1 : mulOk 7 (k : Int) = true := mulOk_l (bd_lit _) (by decide +kernel)
  have m2 : mulOk (7 * (k : Int)) (k : Int) = true := mulOk_r bk (by decide)
  have m3 : mulOk 13 (k : Int) = true := mulOk_l (bd_lit _) (by decide +kernel)
  have m4 : ∀ c : Int, mulOk c 69621 = true := fun c => mulOk_r (bd_lit _) (by decide +kernel)
  have m5 : ∀ c : Int, mulOk c 1000003 = true := fun c => mulOk_r (bd_lit _) (by decide +kernel)
  have m6 : ∀ c : Int, mulOk c 48271 = true := fun c => mulOk_r (bd_lit _) (by decide +kernel)
  by_cases c : k < ns.length
  · have a : L2.atI (ns.map PyData.int) (k : Int) = some (.int ns[k]) := atI_nat (by rw [List.getElem?_map, List.getElem?_eq_getElem c]; rfl)
    refine ⟨_, ?_, key (ns[k].fmod (10 ^ 60)) (Int.fmod_nonneg_of_pos _ (by decide +kernel)) (bd_mono (bd_fmod (bd_lit _) (by decide +kernel)) (by decide +kernel))⟩
    rw [h, ev_f _ rfl]
    simp [f__law_cell_at, init, ev_var, ev_brw, ev_cst, ev_bin, ev_neg, ev_not, ev_cmp, ev_and, ev_or, ev_ite, ev_call, ev_bi, ev_isi, ev_idx, ev_sl, ev_tup, ev_lst, ev_lc, evs_nil, evs_cons, evb_nil, evb_cons, evo_nil, evo_cons, ex_nil, ex_pass, ex_brk, ex_cons, ex_asg, ex_unp, ex_par, ex_aug, ex_ret, ex_retv, ex_iff, ex_for, ex_forc, forcX.eq_1, ex_whl, ex_app, ex_seti, ev_dnew, ev_dnewI, setkX.eq_1, setiX.eq_1, setiX.eq_2, ex_try, ex_hnd, phX.eq_1, try_exc, try_l, try_t, tryO_nil, tryO_one, hnd_eq, hndE.eq_1, hndE.eq_2, ex_pop, ex_clr, ex_revl, varX.eq_1, varX.eq_2, brwX.eq_1, binX.eq_1, negX.eq_1, notX.eq_1, cmpX.eq_1, boX.eq_1, andX.eq_1, andX.eq_2, orX.eq_1, orX.eq_2, iteX.eq_1, iteX.eq_2, retX.eq_1, retX.eq_2, callX.eq_1, biX.eq_1, isiX.eq_1, idxX.eq_1, slX.eq_1, tupX.eq_1, lstX.eq_1, iterX.eq_1, lcX.eq_1, consX.eq_1, consX.eq_2, consB.eq_1, oX.eq_1, thn.eq_1, thn.eq_2, thn.eq_3, asgX.eq_1, asgX.eq_2, unpX.eq_1, unpX.eq_2, parX.eq_1, augX.eq_1, retvX.eq_1, rtX.eq_1, rtX.eq_2, iffX.eq_1, iffX.eq_2, putX.eq_1, ownX.eq_1, appX.eq_1, appX.eq_2, popX.eq_1, mapX.eq_1, frz, frzAt, aft, asI, asB, asT, asTL.eq_1, asTL.eq_2, asL, fl_t, fl_l, fl_d, fl_i, fl_b, fl_n, fl_tp, fa_nil, fa_cons, fa_tp, fa_int, ks_l, ks_lz, ks_t, ks_i, ks_b, ks_n, ks_d, ks_tp, aftR, sc_l, sc_t, sc_i, sc_b, sc_n, outV, ty_ii, ty_bi, ty_ll, ty_tt, ty_bb, ty_ib, ty_lt, ty_li, ty_ls, ty_ss, ty_sl, ty_st, bindT, setMany, setL, intAt, catL, cm_lt, cm_le, cm_gt, cm_ge, cm_eqi, cm_nei, op_add, op_sub, op_mul, op_fdiv, op_mod, ix_t0, ix_t1, ix_t2, scal_tp, pow_ok, len_l, len_t, len_s, xb_abs, xb_max2, xb_min2, xb_list, xb_listT, xb_intb, xb_inti, xb_min, xb_max, it_seq, it_seqT, it_seqS, it_enum, it_zip, it_rev, len_s, ix_s, c, a, p60, m1, m2, m3, m4, m5, m6]
  · refine ⟨_, ?_, key 0 (by decide) (bd_of (by decide))⟩
    rw [h, ev_f _ rfl]
    simp [f__law_cell_at, init, ev_var, ev_brw, ev_cst, ev_bin, ev_neg, ev_not, ev_cmp, ev_and, ev_or, ev_ite, ev_call, ev_bi, ev_isi, ev_idx, ev_sl, ev_tup, ev_lst, ev_lc, evs_nil, evs_cons, evb_nil, evb_cons, evo_nil, evo_cons, ex_nil, ex_pass, ex_brk, ex_cons, ex_asg, ex_unp, ex_par, ex_aug, ex_ret, ex_retv, ex_iff, ex_for, ex_forc, forcX.eq_1, ex_whl, ex_app, ex_seti, ev_dnew, ev_dnewI, setkX.eq_1, setiX.eq_1, setiX.eq_2, ex_try, ex_hnd, phX.eq_1, try_exc, try_l, try_t, tryO_nil, tryO_one, hnd_eq, hndE.eq_1, hndE.eq_2, ex_pop, ex_clr, ex_revl, varX.eq_1, varX.eq_2, brwX.eq_1, binX.eq_1, negX.eq_1, notX.eq_1, cmpX.eq_1, boX.eq_1, andX.eq_1, andX.eq_2, orX.eq_1, orX.eq_2, iteX.eq_1, iteX.eq_2, retX.eq_1, retX.eq_2, callX.eq_1, biX.eq_1, isiX.eq_1, idxX.eq_1, slX.eq_1, tupX.eq_1, lstX.eq_1, iterX.eq_1, lcX.eq_1, consX.eq_1, consX.eq_2, consB.eq_1, oX.eq_1, thn.eq_1, thn.eq_2, thn.eq_3, asgX.eq_1, asgX.eq_2, unpX.eq_1, unpX.eq_2, parX.eq_1, augX.eq_1, retvX.eq_1, rtX.eq_1, rtX.eq_2, iffX.eq_1, iffX.eq_2, putX.eq_1, ownX.eq_1, appX.eq_1, appX.eq_2, popX.eq_1, mapX.eq_1, frz, frzAt, aft, asI, asB, asT, asTL.eq_1, asTL.eq_2, asL, fl_t, fl_l, fl_d, fl_i, fl_b, fl_n, fl_tp, fa_nil, fa_cons, fa_tp, fa_int, ks_l, ks_lz, ks_t, ks_i, ks_b, ks_n, ks_d, ks_tp, aftR, sc_l, sc_t, sc_i, sc_b, sc_n, outV, ty_ii, ty_bi, ty_ll, ty_tt, ty_bb, ty_ib, ty_lt, ty_li, ty_ls, ty_ss, ty_sl, ty_st, bindT, setMany, setL, intAt, catL, cm_lt, cm_le, cm_gt, cm_ge, cm_eqi, cm_nei, op_add, op_sub, op_mul, op_fdiv, op_mod, ix_t0, ix_t1, ix_t2, scal_tp, pow_ok, len_l, len_t, len_s, xb_abs, xb_max2, xb_min2, xb_list, xb_listT, xb_intb, xb_inti, xb_min, xb_max, it_seq, it_seqT, it_seqS, it_enum, it_zip, it_rev, len_s, ix_s, c, p60, m1, m2, m3, m4, m5, m6]
theorem e_whole {Φ : Ph} (h : Impl Φ "_law_whole" f__law_whole) (i : Int) : Φ "_law_whole" [.int i] = some (.bool true, false) := by
  rw [h, ev_f _ rfl]
  simp [f__law_whole, init, ev_var, ev_brw, ev_cst, ev_bin, ev_neg, ev_not, ev_cmp, ev_and, ev_or, ev_ite, ev_call, ev_bi, ev_isi, ev_idx, ev_sl, ev_tup, ev_lst, ev_lc, evs_nil, evs_cons, evb_nil, evb_cons, evo_nil, evo_cons, ex_nil, ex_pass, ex_brk, ex_cons, ex_asg, ex_unp, ex_par, ex_aug, ex_ret, ex_retv, ex_iff, ex_for, ex_forc, forcX.eq_1, ex_whl, ex_app, ex_seti, ev_dnew, ev_dnewI, setkX.eq_1, setiX.eq_1, setiX.eq_2, ex_try, ex_hnd, phX.eq_1, try_exc, try_l, try_t, tryO_nil, tryO_one, hnd_eq, hndE.eq_1, hndE.eq_2, ex_pop, ex_clr, ex_revl, varX.eq_1, varX.eq_2, brwX.eq_1, binX.eq_1, negX.eq_1, notX.eq_1, cmpX.eq_1, boX.eq_1, andX.eq_1, andX.eq_2, orX.eq_1, orX.eq_2, iteX.eq_1, iteX.eq_2, retX.eq_1, retX.eq_2, callX.eq_1, biX.eq_1, isiX.eq_1, idxX.eq_1, slX.eq_1, tupX.eq_1, lstX.eq_1, iterX.eq_1, lcX.eq_1, consX.eq_1, consX.eq_2, consB.eq_1, oX.eq_1, thn.eq_1, thn.eq_2, thn.eq_3, asgX.eq_1, asgX.eq_2, unpX.eq_1, unpX.eq_2, parX.eq_1, augX.eq_1, retvX.eq_1, rtX.eq_1, rtX.eq_2, iffX.eq_1, iffX.eq_2, putX.eq_1, ownX.eq_1, appX.eq_1, appX.eq_2, popX.eq_1, mapX.eq_1, frz, frzAt, aft, asI, asB, asT, asTL.eq_1, asTL.eq_2, asL, fl_t, fl_l, fl_d, fl_i, fl_b, fl_n, fl_tp, fa_nil, fa_cons, fa_tp, fa_int, ks_l, ks_lz, ks_t, ks_i, ks_b, ks_n, ks_d, ks_tp, aftR, sc_l, sc_t, sc_i, sc_b, sc_n, outV, ty_ii, ty_bi, ty_ll, ty_tt, ty_bb, ty_ib, ty_lt, ty_li, ty_ls, ty_ss, ty_sl, ty_st, bindT, setMany, setL, intAt, catL, cm_lt, cm_le, cm_gt, cm_ge, cm_eqi, cm_nei, op_add, op_sub, op_mul, op_fdiv, op_mod, ix_t0, ix_t1, ix_t2, scal_tp, pow_ok, len_l, len_t, len_s, xb_abs, xb_max2, xb_min2, xb_list, xb_listT, xb_intb, xb_inti, xb_min, xb_max, it_seq, it_seqT, it_seqS, it_enum, it_zip, it_rev]
theorem wh_gt {Φ : Ph} : ∀ (b a : Nat) (s2 : Slot), ∃ s2' : Slot, whX Φ (.cmp .gt (.brw 1) (.cst (.int 0))) (.cons (.asg 2 [] (.bin .mod (.brw 0) (.brw 1))) (.cons (.asg 0 [] (.var 1)) (.cons (.asg 1 [] (.var 2)) .nil))) [some (.int (a : Nat), false), some (.int (b : Nat), false), s2] = some (.next [some (.int (Nat.gcd a b : Nat), false), some (.int 0, false), s2']) := by
  intro b
  induction b using Nat.strongRecOn with
  | _ b ih =>
    intro a s2
    by_cases hb : b = 0
    · subst hb
      rw [Nat.gcd_zero_right]
      exact ⟨s2, wx_end (by simp [init, ev_var, ev_brw, ev_cst, ev_bin, ev_neg, ev_not, ev_cmp, ev_and, ev_or, ev_ite, ev_call, ev_bi, ev_isi, ev_idx, ev_sl, ev_tup, ev_lst, ev_lc, evs_nil, evs_cons, evb_nil, evb_cons, evo_nil, evo_cons, ex_nil, ex_pass, ex_brk, ex_cons, ex_asg, ex_unp, ex_par, ex_aug, ex_ret, ex_retv, ex_iff, ex_for, ex_forc, forcX.eq_1, ex_whl, ex_app, ex_seti, ev_dnew, ev_dnewI, setkX.eq_1, setiX.eq_1, setiX.eq_2, ex_try, ex_hnd, phX.eq_1, try_exc, try_l, try_t, tryO_nil, tryO_one, hnd_eq, hndE.eq_1, hndE.eq_2, ex_pop, ex_clr, ex_revl, varX.eq_1, varX.eq_2, brwX.eq_1, binX.eq_1, negX.eq_1, notX.eq_1, cmpX.eq_1, boX.eq_1, andX.eq_1, andX.eq_2, orX.eq_1, orX.eq_2, iteX.eq_1, iteX.eq_2, retX.eq_1, retX.eq_2, callX.eq_1, biX.eq_1, isiX.eq_1, idxX.eq_1, slX.eq_1, tupX.eq_1, lstX.eq_1, iterX.eq_1, lcX.eq_1, consX.eq_1, consX.eq_2, consB.eq_1, oX.eq_1, thn.eq_1, thn.eq_2, thn.eq_3, asgX.eq_1, asgX.eq_2, unpX.eq_1, unpX.eq_2, parX.eq_1, augX.eq_1, retvX.eq_1, rtX.eq_1, rtX.eq_2, iffX.eq_1, iffX.eq_2, putX.eq_1, ownX.eq_1, appX.eq_1, appX.eq_2, popX.eq_1, mapX.eq_1, frz, frzAt, aft, asI, asB, asT, asTL.eq_1, asTL.eq_2, asL, fl_t, fl_l, fl_d, fl_i, fl_b, fl_n, fl_tp, fa_nil, fa_cons, fa_tp, fa_int, ks_l, ks_lz, ks_t, ks_i, ks_b, ks_n, ks_d, ks_tp, aftR, sc_l, sc_t, sc_i, sc_b, sc_n, outV, ty_ii, ty_bi, ty_ll, ty_tt, ty_bb, ty_ib, ty_lt, ty_li, ty_ls, ty_ss, ty_sl, ty_st, bindT, setMany, setL, intAt, catL, cm_lt, cm_le, cm_gt, cm_ge, cm_eqi, cm_nei, op_add, op_sub, op_mul, op_fdiv, op_mod, ix_t0, ix_t1, ix_t2, scal_tp, pow_ok, len_l, len_t, len_s, xb_abs, xb_max2, xb_min2, xb_list, xb_listT, xb_intb, xb_inti, xb_min, xb_max, it_seq, it_seqT, it_seqS, it_enum, it_zip, it_rev])⟩
    · have hlt := Nat.mod_lt a (Nat.pos_of_ne_zero hb)
      have e : Nat.gcd a b = Nat.gcd b (a % b) := by rw [Nat.gcd_comm, Nat.gcd_rec, Nat.gcd_comm]
      rw [e]
      have md : ((a : Int)).fmod (b : Int) = ((a % b : Nat) : Int) := by
        rw [Int.fmod_eq_emod_of_nonneg _ (by omega)]
        exact (Int.natCast_emod a b).symm
      have nz : (b : Int) ≠ 0 := by omega
      obtain ⟨s2', e2⟩ := ih (a % b) hlt b (some (.int ((a % b : Nat) : Int), false))
      refine ⟨s2', wx_turn ?_ ?_ e2⟩
      · simp [init, ev_var, ev_brw, ev_cst, ev_bin, ev_neg, ev_not, ev_cmp, ev_and, ev_or, ev_ite, ev_call, ev_bi, ev_isi, ev_idx, ev_sl, ev_tup, ev_lst, ev_lc, evs_nil, evs_cons, evb_nil, evb_cons, evo_nil, evo_cons, ex_nil, ex_pass, ex_brk, ex_cons, ex_asg, ex_unp, ex_par, ex_aug, ex_ret, ex_retv, ex_iff, ex_for, ex_forc, forcX.eq_1, ex_whl, ex_app, ex_seti, ev_dnew, ev_dnewI, setkX.eq_1, setiX.eq_1, setiX.eq_2, ex_try, ex_hnd, phX.eq_1, try_exc, try_l, try_t, tryO_nil, tryO_one, hnd_eq, hndE.eq_1, hndE.eq_2, ex_pop, ex_clr, ex_revl, varX.eq_1, varX.eq_2, brwX.eq_1, binX.eq_1, negX.eq_1, notX.eq_1, cmpX.eq_1, boX.eq_1, andX.eq_1, andX.eq_2, orX.eq_1, orX.eq_2, iteX.eq_1, iteX.eq_2, retX.eq_1, retX.eq_2, callX.eq_1, biX.eq_1, isiX.eq_1, idxX.eq_1, slX.eq_1, tupX.eq_1, lstX.eq_1, iterX.eq_1, lcX.eq_1, consX.eq_1, consX.eq_2, consB.eq_1, oX.eq_1, thn.eq_1, thn.eq_2, thn.eq_3, asgX.eq_1, asgX.eq_2, unpX.eq_1, unpX.eq_2, parX.eq_1, augX.eq_1, retvX.eq_1, rtX.eq_1, rtX.eq_2, iffX.eq_1, iffX.eq_2, putX.eq_1, ownX.eq_1, appX.eq_1, appX.eq_2, popX.eq_1, mapX.eq_1, frz, frzAt, aft, asI, asB, asT, asTL.eq_1, asTL.eq_2, asL, fl_t, fl_l, fl_d, fl_i, fl_b, fl_n, fl_tp, fa_nil, fa_cons, fa_tp, fa_int, ks_l, ks_lz, ks_t, ks_i, ks_b, ks_n, ks_d, ks_tp, aftR, sc_l, sc_t, sc_i, sc_b, sc_n, outV, ty_ii, ty_bi, ty_ll, ty_tt, ty_bb, ty_ib, ty_lt, ty_li, ty_ls, ty_ss, ty_sl, ty_st, bindT, setMany, setL, intAt, catL, cm_lt, cm_le, cm_gt, cm_ge, cm_eqi, cm_nei, op_add, op_sub, op_mul, op_fdiv, op_mod, ix_t0, ix_t1, ix_t2, scal_tp, pow_ok, len_l, len_t, len_s, xb_abs, xb_max2, xb_min2, xb_list, xb_listT, xb_intb, xb_inti, xb_min, xb_max, it_seq, it_seqT, it_seqS, it_enum, it_zip, it_rev, Nat.pos_of_ne_zero hb]
      · simp only [ex_cons, ex_asg, frz, ev_var, ev_bin, ev_brw, List.getElem?_cons_succ, List.getElem?_cons_zero, varX.eq_1, brwX.eq_1, binX.eq_1, op_mod nz, md, asgX.eq_1, aftR, ks_i, if_true, List.set_cons_succ, List.set_cons_zero, thn.eq_1, ex_nil]
theorem e_divl {Φ : Ph} (h : Impl Φ "_law_divisor" f__law_divisor) (a b : Int) : Φ "_law_divisor" [.int a, .int b] = some (.int (Nat.gcd a.natAbs b.natAbs : Nat), false) := by
  obtain ⟨s2', w⟩ := wh_gt (Φ := Φ) b.natAbs a.natAbs none
  rw [h, ev_f _ rfl]
  simp [f__law_divisor, init, ev_var, ev_brw, ev_cst, ev_bin, ev_neg, ev_not, ev_cmp, ev_and, ev_or, ev_ite, ev_call, ev_bi, ev_isi, ev_idx, ev_sl, ev_tup, ev_lst, ev_lc, evs_nil, evs_cons, evb_nil, evb_cons, evo_nil, evo_cons, ex_nil, ex_pass, ex_brk, ex_cons, ex_asg, ex_unp, ex_par, ex_aug, ex_ret, ex_retv, ex_iff, ex_for, ex_forc, forcX.eq_1, ex_whl, ex_app, ex_seti, ev_dnew, ev_dnewI, setkX.eq_1, setiX.eq_1, setiX.eq_2, ex_try, ex_hnd, phX.eq_1, try_exc, try_l, try_t, tryO_nil, tryO_one, hnd_eq, hndE.eq_1, hndE.eq_2, ex_pop, ex_clr, ex_revl, varX.eq_1, varX.eq_2, brwX.eq_1, binX.eq_1, negX.eq_1, notX.eq_1, cmpX.eq_1, boX.eq_1, andX.eq_1, andX.eq_2, orX.eq_1, orX.eq_2, iteX.eq_1, iteX.eq_2, retX.eq_1, retX.eq_2, callX.eq_1, biX.eq_1, isiX.eq_1, idxX.eq_1, slX.eq_1, tupX.eq_1, lstX.eq_1, iterX.eq_1, lcX.eq_1, consX.eq_1, consX.eq_2, consB.eq_1, oX.eq_1, thn.eq_1, thn.eq_2, thn.eq_3, asgX.eq_1, asgX.eq_2, unpX.eq_1, unpX.eq_2, parX.eq_1, augX.eq_1, retvX.eq_1, rtX.eq_1, rtX.eq_2, iffX.eq_1, iffX.eq_2, putX.eq_1, ownX.eq_1, appX.eq_1, appX.eq_2, popX.eq_1, mapX.eq_1, frz, frzAt, aft, asI, asB, asT, asTL.eq_1, asTL.eq_2, asL, fl_t, fl_l, fl_d, fl_i, fl_b, fl_n, fl_tp, fa_nil, fa_cons, fa_tp, fa_int, ks_l, ks_lz, ks_t, ks_i, ks_b, ks_n, ks_d, ks_tp, aftR, sc_l, sc_t, sc_i, sc_b, sc_n, outV, ty_ii, ty_bi, ty_ll, ty_tt, ty_bb, ty_ib, ty_lt, ty_li, ty_ls, ty_ss, ty_sl, ty_st, bindT, setMany, setL, intAt, catL, cm_lt, cm_le, cm_gt, cm_ge, cm_eqi, cm_nei, op_add, op_sub, op_mul, op_fdiv, op_mod, ix_t0, ix_t1, ix_t2, scal_tp, pow_ok, len_l, len_t, len_s, xb_abs, xb_max2, xb_min2, xb_list, xb_listT, xb_intb, xb_inti, xb_min, xb_max, it_seq, it_seqT, it_seqS, it_enum, it_zip, it_rev, w]
theorem e_isf {Φ : Ph} (h : Impl Φ "_law_is_fraction" f__law_is_fraction) (hw : Impl Φ "_law_whole" f__law_whole) (hd : Impl Φ "_law_divisor" f__law_divisor) {n : Nat} {x : Rat} (g : sz n x) : Φ "_law_is_fraction" [tp (N x)] = some (.bool true, false) := by
  have wh := e_whole hw
  have e := e_divl hd (N x).1 (N x).2
  have co := g.co
  rw [co] at e
  have ps := g.pos
  rw [h, ev_f _ rfl]
  simp [f__law_is_fraction, init, ev_var, ev_brw, ev_cst, ev_bin, ev_neg, ev_not, ev_cmp, ev_and, ev_or, ev_ite, ev_call, ev_bi, ev_isi, ev_idx, ev_sl, ev_tup, ev_lst, ev_lc, evs_nil, evs_cons, evb_nil, evb_cons, evo_nil, evo_cons, ex_nil, ex_pass, ex_brk, ex_cons, ex_asg, ex_unp, ex_par, ex_aug, ex_ret, ex_retv, ex_iff, ex_for, ex_forc, forcX.eq_1, ex_whl, ex_app, ex_seti, ev_dnew, ev_dnewI, setkX.eq_1, setiX.eq_1, setiX.eq_2, ex_try, ex_hnd, phX.eq_1, try_exc, try_l, try_t, tryO_nil, tryO_one, hnd_eq, hndE.eq_1, hndE.eq_2, ex_pop, ex_clr, ex_revl, varX.eq_1, varX.eq_2, brwX.eq_1, binX.eq_1, negX.eq_1, notX.eq_1, cmpX.eq_1, boX.eq_1, andX.eq_1, andX.eq_2, orX.eq_1, orX.eq_2, iteX.eq_1, iteX.eq_2, retX.eq_1, retX.eq_2, callX.eq_1, biX.eq_1, isiX.eq_1, idxX.eq_1, slX.eq_1, tupX.eq_1, lstX.eq_1, iterX.eq_1, lcX.eq_1, consX.eq_1, consX.eq_2, consB.eq_1, oX.eq_1, thn.eq_1, thn.eq_2, thn.eq_3, asgX.eq_1, asgX.eq_2, unpX.eq_1, unpX.eq_2, parX.eq_1, augX.eq_1, retvX.eq_1, rtX.eq_1, rtX.eq_2, iffX.eq_1, iffX.eq_2, putX.eq_1, ownX.eq_1, appX.eq_1, appX.eq_2, popX.eq_1, mapX.eq_1, frz, frzAt, aft, asI, asB, asT, asTL.eq_1, asTL.eq_2, asL, fl_t, fl_l, fl_d, fl_i, fl_b, fl_n, fl_tp, fa_nil, fa_cons, fa_tp, fa_int, ks_l, ks_lz, ks_t, ks_i, ks_b, ks_n, ks_d, ks_tp, aftR, sc_l, sc_t, sc_i, sc_b, sc_n, outV, ty_ii, ty_bi, ty_ll, ty_tt, ty_bb, ty_ib, ty_lt, ty_li, ty_ls, ty_ss, ty_sl, ty_st, bindT, setMany, setL, intAt, catL, cm_lt, cm_le, cm_gt, cm_ge, cm_eqi, cm_nei, op_add, op_sub, op_mul, op_fdiv, op_mod, ix_t0, ix_t1, ix_t2, scal_tp, pow_ok, len_l, len_t, len_s, xb_abs, xb_max2, xb_min2, xb_list, xb_listT, xb_intb, xb_inti, xb_min, xb_max, it_seq, it_seqT, it_seqS, it_enum, it_zip, it_rev, isT_tp, len_tp, ix_f0, ix_f1, wh, e, show ¬ (N x).2 < 1 by omega]
theorem e_is {Φ : Ph} (h : Impl Φ "_law_is" f__law_is) (hf : Impl Φ "_law_is_fraction" f__law_is_fraction) (hw : Impl Φ "_law_whole" f__law_whole) (hd : Impl Φ "_law_divisor" f__law_divisor) {n : Nat} {a b : Int} (ha : bd n a) (hb : bd n b) (hn : n ≤ 8000) (h0 : b ≠ 0) (g : sz n (Rat.divInt a b)) :
    Φ "_law_is" [tp (N (Rat.divInt a b)), .int a, .int b] = some (.bool true, false) := by
  have e := e_isf hf hw hd g
  have m1 : mulOk (N (Rat.divInt a b)).1 b = true := mulOk_bd g.a hb (by omega)
  have m2 : mulOk a (N (Rat.divInt a b)).2 = true := mulOk_bd ha g.b (by omega)
  have c : (N (Rat.divInt a b)).1 * b = a * (N (Rat.divInt a b)).2 := by
    refine (Rat.divInt_eq_divInt_iff (N_ne _) h0).mp ?_
    rw [N_self]
  rw [h, ev_f _ rfl]
  simp [f__law_is, init, ev_var, ev_brw, ev_cst, ev_bin, ev_neg, ev_not, ev_cmp, ev_and, ev_or, ev_ite, ev_call, ev_bi, ev_isi, ev_idx, ev_sl, ev_tup, ev_lst, ev_lc, evs_nil, evs_cons, evb_nil, evb_cons, evo_nil, evo_cons, ex_nil, ex_pass, ex_brk, ex_cons, ex_asg, ex_unp, ex_par, ex_aug, ex_ret, ex_retv, ex_iff, ex_for, ex_forc, forcX.eq_1, ex_whl, ex_app, ex_seti, ev_dnew, ev_dnewI, setkX.eq_1, setiX.eq_1, setiX.eq_2, ex_try, ex_hnd, phX.eq_1, try_exc, try_l, try_t, tryO_nil, tryO_one, hnd_eq, hndE.eq_1, hndE.eq_2, ex_pop, ex_clr, ex_revl, varX.eq_1, varX.eq_2, brwX.eq_1, binX.eq_1, negX.eq_1, notX.eq_1, cmpX.eq_1, boX.eq_1, andX.eq_1, andX.eq_2, orX.eq_1, orX.eq_2, iteX.eq_1, iteX.eq_2, retX.eq_1, retX.eq_2, callX.eq_1, biX.eq_1, isiX.eq_1, idxX.eq_1, slX.eq_1, tupX.eq_1, lstX.eq_1, iterX.eq_1, lcX.eq_1, consX.eq_1, consX.eq_2, consB.eq_1, oX.eq_1, thn.eq_1, thn.eq_2, thn.eq_3, asgX.eq_1, asgX.eq_2, unpX.eq_1, unpX.eq_2, parX.eq_1, augX.eq_1, retvX.eq_1, rtX.eq_1, rtX.eq_2, iffX.eq_1, iffX.eq_2, putX.eq_1, ownX.eq_1, appX.eq_1, appX.eq_2, popX.eq_1, mapX.eq_1, frz, frzAt, aft, asI, asB, asT, asTL.eq_1, asTL.eq_2, asL, fl_t, fl_l, fl_d, fl_i, fl_b, fl_n, fl_tp, fa_nil, fa_cons, fa_tp, fa_int, ks_l, ks_lz, ks_t, ks_i, ks_b, ks_n, ks_d, ks_tp, aftR, sc_l, sc_t, sc_i, sc_b, sc_n, outV, ty_ii, ty_bi, ty_ll, ty_tt, ty_bb, ty_ib, ty_lt, ty_li, ty_ls, ty_ss, ty_sl, ty_st, bindT, setMany, setL, intAt, catL, cm_lt, cm_le, cm_gt, cm_ge, cm_eqi, cm_nei, op_add, op_sub, op_mul, op_fdiv, op_mod, ix_t0, ix_t1, ix_t2, scal_tp, pow_ok, len_l, len_t, len_s, xb_abs, xb_max2, xb_min2, xb_list, xb_listT, xb_intb, xb_inti, xb_min, xb_max, it_seq, it_seqT, it_seqS, it_enum, it_zip, it_rev, ix_f0, ix_f1, e, m1, m2, c]
/-- the marks of a class of this number -/
def marks (n : Nat) : D := .list ((List.range 11).map fun k => .bool ((decide (k = 0) || decide (k = n))))
theorem e_only {Φ : Ph} (h : Impl Φ "_law_only" f__law_only) (n : Nat) : Φ "_law_only" [.int (n : Nat)] = some (marks n, true) := by
  rw [h, ev_f _ rfl]
  have r : iterO .range [.int 11] = some ((List.range 11).map fun k : Nat => .int (k : Nat)) := by rfl
  have go : lcGoX Φ (.nm 1) (.cst (.bool true)) (.cmp .inn (.brw 1) (.tup (.cons (.cst (.int 0)) (.cons (.var 0) .nil)))) [some (.int (n : Nat), false), none] ((List.range 11).map fun k : Nat => .int (k : Nat)) = some ((List.range 11).map fun k => .bool ((decide (k = 0) || decide (k = n)))) := by
    refine lc_m fun k hk => ⟨_, (.bool ((decide (k = 0) || decide (k = n))), .z), rfl, by simp [init, ev_var, ev_brw, ev_cst, ev_bin, ev_neg, ev_not, ev_cmp, ev_and, ev_or, ev_ite, ev_call, ev_bi, ev_isi, ev_idx, ev_sl, ev_tup, ev_lst, ev_lc, evs_nil, evs_cons, evb_nil, evb_cons, evo_nil, evo_cons, ex_nil, ex_pass, ex_brk, ex_cons, ex_asg, ex_unp, ex_par, ex_aug, ex_ret, ex_retv, ex_iff, ex_for, ex_forc, forcX.eq_1, ex_whl, ex_app, ex_seti, ev_dnew, ev_dnewI, setkX.eq_1, setiX.eq_1, setiX.eq_2, ex_try, ex_hnd, phX.eq_1, try_exc, try_l, try_t, tryO_nil, tryO_one, hnd_eq, hndE.eq_1, hndE.eq_2, ex_pop, ex_clr, ex_revl, varX.eq_1, varX.eq_2, brwX.eq_1, binX.eq_1, negX.eq_1, notX.eq_1, cmpX.eq_1, boX.eq_1, andX.eq_1, andX.eq_2, orX.eq_1, orX.eq_2, iteX.eq_1, iteX.eq_2, retX.eq_1, retX.eq_2, callX.eq_1, biX.eq_1, isiX.eq_1, idxX.eq_1, slX.eq_1, tupX.eq_1, lstX.eq_1, iterX.eq_1, lcX.eq_1, consX.eq_1, consX.eq_2, consB.eq_1, oX.eq_1, thn.eq_1, thn.eq_2, thn.eq_3, asgX.eq_1, asgX.eq_2, unpX.eq_1, unpX.eq_2, parX.eq_1, augX.eq_1, retvX.eq_1, rtX.eq_1, rtX.eq_2, iffX.eq_1, iffX.eq_2, putX.eq_1, ownX.eq_1, appX.eq_1, appX.eq_2, popX.eq_1, mapX.eq_1, frz, frzAt, aft, asI, asB, asT, asTL.eq_1, asTL.eq_2, asL, fl_t, fl_l, fl_d, fl_i, fl_b, fl_n, fl_tp, fa_nil, fa_cons, fa_tp, fa_int, ks_l, ks_lz, ks_t, ks_i, ks_b, ks_n, ks_d, ks_tp, aftR, sc_l, sc_t, sc_i, sc_b, sc_n, outV, ty_ii, ty_bi, ty_ll, ty_tt, ty_bb, ty_ib, ty_lt, ty_li, ty_ls, ty_ss, ty_sl, ty_st, bindT, setMany, setL, intAt, catL, cm_lt, cm_le, cm_gt, cm_ge, cm_eqi, cm_nei, op_add, op_sub, op_mul, op_fdiv, op_mod, ix_t0, ix_t1, ix_t2, scal_tp, pow_ok, len_l, len_t, len_s, xb_abs, xb_max2, xb_min2, xb_list, xb_listT, xb_intb, xb_inti, xb_min, xb_max, it_seq, it_seqT, it_seqS, it_enum, it_zip, it_rev], ?_, rfl⟩
    have e := in_ints (k : Nat) [0, (n : Nat)]
    have e2 : decide (((k : Nat) : Int) ∈ [0, ((n : Nat) : Int)]) = (decide (k = 0) || decide (k = n)) := by
      rw [← Bool.decide_or, decide_eq_decide]; simp; omega
    rw [e2] at e
    have e : cm .inn (.int (k : Nat)) (.tuple [.int 0, .int (n : Nat)]) = _ := e
    simp [init, ev_var, ev_brw, ev_cst, ev_bin, ev_neg, ev_not, ev_cmp, ev_and, ev_or, ev_ite, ev_call, ev_bi, ev_isi, ev_idx, ev_sl, ev_tup, ev_lst, ev_lc, evs_nil, evs_cons, evb_nil, evb_cons, evo_nil, evo_cons, ex_nil, ex_pass, ex_brk, ex_cons, ex_asg, ex_unp, ex_par, ex_aug, ex_ret, ex_retv, ex_iff, ex_for, ex_forc, forcX.eq_1, ex_whl, ex_app, ex_seti, ev_dnew, ev_dnewI, setkX.eq_1, setiX.eq_1, setiX.eq_2, ex_try, ex_hnd, phX.eq_1, try_exc, try_l, try_t, tryO_nil, tryO_one, hnd_eq, hndE.eq_1, hndE.eq_2, ex_pop, ex_clr, ex_revl, varX.eq_1, varX.eq_2, brwX.eq_1, binX.eq_1, negX.eq_1, notX.eq_1, cmpX.eq_1, boX.eq_1, andX.eq_1, andX.eq_2, orX.eq_1, orX.eq_2, iteX.eq_1, iteX.eq_2, retX.eq_1, retX.eq_2, callX.eq_1, biX.eq_1, isiX.eq_1, idxX.eq_1, slX.eq_1, tupX.eq_1, lstX.eq_1, iterX.eq_1, lcX.eq_1, consX.eq_1, consX.eq_2, consB.eq_1, oX.eq_1, thn.eq_1, thn.eq_2, thn.eq_3, asgX.eq_1, asgX.eq_2, unpX.eq_1, unpX.eq_2, parX.eq_1, augX.eq_1, retvX.eq_1, rtX.eq_1, rtX.eq_2, iffX.eq_1, iffX.eq_2, putX.eq_1, ownX.eq_1, appX.eq_1, appX.eq_2, popX.eq_1, mapX.eq_1, frz, frzAt, aft, asI, asB, asT, asTL.eq_1, asTL.eq_2, asL, fl_t, fl_l, fl_d, fl_i, fl_b, fl_n, fl_tp, fa_nil, fa_cons, fa_tp, fa_int, ks_l, ks_lz, ks_t, ks_i, ks_b, ks_n, ks_d, ks_tp, aftR, sc_l, sc_t, sc_i, sc_b, sc_n, outV, ty_ii, ty_bi, ty_ll, ty_tt, ty_bb, ty_ib, ty_lt, ty_li, ty_ls, ty_ss, ty_sl, ty_st, bindT, setMany, setL, intAt, catL, cm_lt, cm_le, cm_gt, cm_ge, cm_eqi, cm_nei, op_add, op_sub, op_mul, op_fdiv, op_mod, ix_t0, ix_t1, ix_t2, scal_tp, pow_ok, len_l, len_t, len_s, xb_abs, xb_max2, xb_min2, xb_list, xb_listT, xb_intb, xb_inti, xb_min, xb_max, it_seq, it_seqT, it_seqS, it_enum, it_zip, it_rev, e]
  have l11 : ((List.range 11).map fun k : Nat => PyData.int (k : Nat)).length ≤ lim := by rw [List.length_map, List.length_range]; decide
  generalize ((List.range 11).map fun k : Nat => PyData.int (k : Nat)) = L at *
  simp [f__law_only, init, ev_var, ev_brw, ev_cst, ev_bin, ev_neg, ev_not, ev_cmp, ev_and, ev_or, ev_ite, ev_call, ev_bi, ev_isi, ev_idx, ev_sl, ev_tup, ev_lst, ev_lc, evs_nil, evs_cons, evb_nil, evb_cons, evo_nil, evo_cons, ex_nil, ex_pass, ex_brk, ex_cons, ex_asg, ex_unp, ex_par, ex_aug, ex_ret, ex_retv, ex_iff, ex_for, ex_forc, forcX.eq_1, ex_whl, ex_app, ex_seti, ev_dnew, ev_dnewI, setkX.eq_1, setiX.eq_1, setiX.eq_2, ex_try, ex_hnd, phX.eq_1, try_exc, try_l, try_t, tryO_nil, tryO_one, hnd_eq, hndE.eq_1, hndE.eq_2, ex_pop, ex_clr, ex_revl, varX.eq_1, varX.eq_2, brwX.eq_1, binX.eq_1, negX.eq_1, notX.eq_1, cmpX.eq_1, boX.eq_1, andX.eq_1, andX.eq_2, orX.eq_1, orX.eq_2, iteX.eq_1, iteX.eq_2, retX.eq_1, retX.eq_2, callX.eq_1, biX.eq_1, isiX.eq_1, idxX.eq_1, slX.eq_1, tupX.eq_1, lstX.eq_1, iterX.eq_1, lcX.eq_1, consX.eq_1, consX.eq_2, consB.eq_1, oX.eq_1, thn.eq_1, thn.eq_2, thn.eq_3, asgX.eq_1, asgX.eq_2, unpX.eq_1, unpX.eq_2, parX.eq_1, augX.eq_1, retvX.eq_1, rtX.eq_1, rtX.eq_2, iffX.eq_1, iffX.eq_2, putX.eq_1, ownX.eq_1, appX.eq_1, appX.eq_2, popX.eq_1, mapX.eq_1, frz, frzAt, aft, asI, asB, asT, asTL.eq_1, asTL.eq_2, asL, fl_t, fl_l, fl_d, fl_i, fl_b, fl_n, fl_tp, fa_nil, fa_cons, fa_tp, fa_int, ks_l, ks_lz, ks_t, ks_i, ks_b, ks_n, ks_d, ks_tp, aftR, sc_l, sc_t, sc_i, sc_b, sc_n, outV, ty_ii, ty_bi, ty_ll, ty_tt, ty_bb, ty_ib, ty_lt, ty_li, ty_ls, ty_ss, ty_sl, ty_st, bindT, setMany, setL, intAt, catL, cm_lt, cm_le, cm_gt, cm_ge, cm_eqi, cm_nei, op_add, op_sub, op_mul, op_fdiv, op_mod, ix_t0, ix_t1, ix_t2, scal_tp, pow_ok, len_l, len_t, len_s, xb_abs, xb_max2, xb_min2, xb_list, xb_listT, xb_intb, xb_inti, xb_min, xb_max, it_seq, it_seqT, it_seqS, it_enum, it_zip, it_rev, r, go, l11]
  rfl
theorem I {f : Str} {fn : Fn} (h : (f, fn) ∈ tab) : Impl (look tab) f fn := look_impl tab_ok h
theorem e_exc {Φ : Ph} (h : Impl Φ "!fraction" fR_fraction) (a : Int) : Φ "!fraction" [.int a, .int 0] = some (excD "NoFraction", false) := by
  rw [h, ev_f _ rfl]
  simp [fR_fraction, init, ev_var, ev_brw, ev_cst, ev_bin, ev_neg, ev_not, ev_cmp, ev_and, ev_or, ev_ite, ev_call, ev_bi, ev_isi, ev_idx, ev_sl, ev_tup, ev_lst, ev_lc, evs_nil, evs_cons, evb_nil, evb_cons, evo_nil, evo_cons, ex_nil, ex_pass, ex_brk, ex_cons, ex_asg, ex_unp, ex_par, ex_aug, ex_ret, ex_retv, ex_iff, ex_for, ex_forc, forcX.eq_1, ex_whl, ex_app, ex_seti, ev_dnew, ev_dnewI, setkX.eq_1, setiX.eq_1, setiX.eq_2, ex_try, ex_hnd, phX.eq_1, try_exc, try_l, try_t, tryO_nil, tryO_one, hnd_eq, hndE.eq_1, hndE.eq_2, ex_pop, ex_clr, ex_revl, varX.eq_1, varX.eq_2, brwX.eq_1, binX.eq_1, negX.eq_1, notX.eq_1, cmpX.eq_1, boX.eq_1, andX.eq_1, andX.eq_2, orX.eq_1, orX.eq_2, iteX.eq_1, iteX.eq_2, retX.eq_1, retX.eq_2, callX.eq_1, biX.eq_1, isiX.eq_1, idxX.eq_1, slX.eq_1, tupX.eq_1, lstX.eq_1, iterX.eq_1, lcX.eq_1, consX.eq_1, consX.eq_2, consB.eq_1, oX.eq_1, thn.eq_1, thn.eq_2, thn.eq_3, asgX.eq_1, asgX.eq_2, unpX.eq_1, unpX.eq_2, parX.eq_1, augX.eq_1, retvX.eq_1, rtX.eq_1, rtX.eq_2, iffX.eq_1, iffX.eq_2, putX.eq_1, ownX.eq_1, appX.eq_1, appX.eq_2, popX.eq_1, mapX.eq_1, frz, frzAt, aft, asI, asB, asT, asTL.eq_1, asTL.eq_2, asL, fl_t, fl_l, fl_d, fl_i, fl_b, fl_n, fl_tp, fa_nil, fa_cons, fa_tp, fa_int, ks_l, ks_lz, ks_t, ks_i, ks_b, ks_n, ks_d, ks_tp, aftR, sc_l, sc_t, sc_i, sc_b, sc_n, outV, ty_ii, ty_bi, ty_ll, ty_tt, ty_bb, ty_ib, ty_lt, ty_li, ty_ls, ty_ss, ty_sl, ty_st, bindT, setMany, setL, intAt, catL, cm_lt, cm_le, cm_gt, cm_ge, cm_eqi, cm_nei, op_add, op_sub, op_mul, op_fdiv, op_mod, ix_t0, ix_t1, ix_t2, scal_tp, pow_ok, len_l, len_t, len_s, xb_abs, xb_max2, xb_min2, xb_list, xb_listT, xb_intb, xb_inti, xb_min, xb_max, it_seq, it_seqT, it_seqS, it_enum, it_zip, it_rev]
theorem e_ref {Φ : Ph} (h : Impl Φ "_law_refused" f__law_refused) (ho : Impl Φ "_law_only" f__law_only) (hf : Impl Φ "!fraction" fR_fraction) (a : Int) : Φ "_law_refused" [.int a] = some (.bool true, false) := by
  have e := e_exc hf a
  have o := e_only ho 1
  have m : marks 1 = .list [.bool true, .bool true, .bool false, .bool false, .bool false, .bool false, .bool false, .bool false, .bool false, .bool false, .bool false] := by rfl
  have q : cm .eq (marks 1) (marks 1) = some true := (cm_self (by decide +kernel) (by decide +kernel)).1
  rw [m] at o q
  have o : Φ "_law_only" [.int 1] = _ := o
  rw [h, ev_f _ rfl]
  simp [f__law_refused, init, ev_var, ev_brw, ev_cst, ev_bin, ev_neg, ev_not, ev_cmp, ev_and, ev_or, ev_ite, ev_call, ev_bi, ev_isi, ev_idx, ev_sl, ev_tup, ev_lst, ev_lc, evs_nil, evs_cons, evb_nil, evb_cons, evo_nil, evo_cons, ex_nil, ex_pass, ex_brk, ex_cons, ex_asg, ex_unp, ex_par, ex_aug, ex_ret, ex_retv, ex_iff, ex_for, ex_forc, forcX.eq_1, ex_whl, ex_app, ex_seti, ev_dnew, ev_dnewI, setkX.eq_1, setiX.eq_1, setiX.eq_2, ex_try, ex_hnd, phX.eq_1, try_exc, try_l, try_t, tryO_nil, tryO_one, hnd_eq, hndE.eq_1, hndE.eq_2, ex_pop, ex_clr, ex_revl, varX.eq_1, varX.eq_2, brwX.eq_1, binX.eq_1, negX.eq_1, notX.eq_1, cmpX.eq_1, boX.eq_1, andX.eq_1, andX.eq_2, orX.eq_1, orX.eq_2, iteX.eq_1, iteX.eq_2, retX.eq_1, retX.eq_2, callX.eq_1, biX.eq_1, isiX.eq_1, idxX.eq_1, slX.eq_1, tupX.eq_1, lstX.eq_1, iterX.eq_1, lcX.eq_1, consX.eq_1, consX.eq_2, consB.eq_1, oX.eq_1, thn.eq_1, thn.eq_2, thn.eq_3, asgX.eq_1, asgX.eq_2, unpX.eq_1, unpX.eq_2, parX.eq_1, augX.eq_1, retvX.eq_1, rtX.eq_1, rtX.eq_2, iffX.eq_1, iffX.eq_2, putX.eq_1, ownX.eq_1, appX.eq_1, appX.eq_2, popX.eq_1, mapX.eq_1, frz, frzAt, aft, asI, asB, asT, asTL.eq_1, asTL.eq_2, asL, fl_t, fl_l, fl_d, fl_i, fl_b, fl_n, fl_tp, fa_nil, fa_cons, fa_tp, fa_int, ks_l, ks_lz, ks_t, ks_i, ks_b, ks_n, ks_d, ks_tp, aftR, sc_l, sc_t, sc_i, sc_b, sc_n, outV, ty_ii, ty_bi, ty_ll, ty_tt, ty_bb, ty_ib, ty_lt, ty_li, ty_ls, ty_ss, ty_sl, ty_st, bindT, setMany, setL, intAt, catL, cm_lt, cm_le, cm_gt, cm_ge, cm_eqi, cm_nei, op_add, op_sub, op_mul, op_fdiv, op_mod, ix_t0, ix_t1, ix_t2, scal_tp, pow_ok, len_l, len_t, len_s, xb_abs, xb_max2, xb_min2, xb_list, xb_listT, xb_intb, xb_inti, xb_min, xb_max, it_seq, it_seqT, it_seqS, it_enum, it_zip, it_rev, e, o, q]
theorem law (ns : List Int) (hn : ns.length ≤ 63) : ∃ o, look tab "law" [scr (ns.map .int)] = some (.bool true, o) := by
  have i_cell := I (f := "_law_cell_at") (fn := f__law_cell_at) (by simp [tab])
  have i_dl := I (f := "_law_divisor") (fn := f__law_divisor) (by simp [tab])
  have i_wh := I (f := "_law_whole") (fn := f__law_whole) (by simp [tab])
  have i_if := I (f := "_law_is_fraction") (fn := f__law_is_fraction) (by simp [tab])
  have i_is := I (f := "_law_is") (fn := f__law_is) (by simp [tab])
  have i_dv := I (f := "divisor") (fn := f_divisor) (by simp [tab])
  have i_fr := I (f := "fraction") (fn := f_fraction) (by simp [tab])
  have i_fx := I (f := "!fraction") (fn := fR_fraction) (by simp [tab])
  have i_on := I (f := "_law_only") (fn := f__law_only) (by simp [tab])
  have i_re := I (f := "_law_refused") (fn := f__law_refused) (by simp [tab])
  have i_law := I (f := "law") (fn := f_law) (by simp [tab])
  generalize look tab = Φ at *
  have lf := lo_fraction i_fr i_dv
  obtain ⟨c0, e0, z0, b0⟩ := e_cell i_cell ns 0 (by decide)
  obtain ⟨c1, e1, z1, b1⟩ := e_cell i_cell ns 1 (by decide)
  obtain ⟨c2, e2, z2, b2⟩ := e_cell i_cell ns 2 (by decide)
  obtain ⟨c3, e3, z3, b3⟩ := e_cell i_cell ns 3 (by decide)
  have e0 : Φ "_law_cell_at" [scr (ns.map .int), .int 0] = some (.int c0, false) := e0
  have e1 : Φ "_law_cell_at" [scr (ns.map .int), .int 1] = some (.int c1, false) := e1
  have e2 : Φ "_law_cell_at" [scr (ns.map .int), .int 2] = some (.int c2, false) := e2
  have e3 : Φ "_law_cell_at" [scr (ns.map .int), .int 3] = some (.int c3, false) := e3
  have p30 : powOk 10 30 = true := by decide
  have pick : ∀ c : Int, ∃ m : Int, idxO (.list [.int 12, .int (10 ^ 30 - 1)]) (.int (c.fmod 2)) = some (.int m) ∧ 12 ≤ m ∧ bd 100 m := fun c => by
    have h1 := Int.fmod_nonneg_of_pos c (show (0 : Int) < 2 by decide)
    have h2 := Int.fmod_lt_of_pos c (show (0 : Int) < 2 by decide)
    rcases (show c.fmod 2 = 0 ∨ c.fmod 2 = 1 by omega) with e | e
    · rw [e]; exact ⟨12, by rw [ix_l]; rfl, by decide, bd_of (by decide)⟩
    · rw [e]; exact ⟨10 ^ 30 - 1, by rw [ix_l]; rfl, by decide +kernel, bd_of (by decide +kernel)⟩
  obtain ⟨m0, em0, lm0, bm0⟩ := pick c0
  obtain ⟨m3, em3, lm3, bm3⟩ := pick c3
  have p30' : (10 : Int) ^ (30 : Nat) = 1000000000000000000000000000000 := by decide +kernel
  rw [p30'] at em0 em3
  have em0 : idxO (.list [.int 12, .int 999999999999999999999999999999]) (.int (c0.fmod 2)) = some (.int m0) := em0
  have em3 : idxO (.list [.int 12, .int 999999999999999999999999999999]) (.int (c3.fmod 2)) = some (.int m3) := em3
  have d2 : divOk 2 = true := by decide
  have n0 : m0 ≠ 0 := by omega
  have sh0 := Int.fmod_nonneg_of_pos (c0.fdiv 2) (show (0 : Int) < m0 by omega)
  have bsh : bd 102 (1 + (c0.fdiv 2).fmod m0) := bd_mono (bd_add (bd_lit 1) (bd_fmod bm0 (by omega))) (by decide)
  have psh : 0 < 1 + (c0.fdiv 2).fmod m0 := by omega
  generalize hsh : 1 + (c0.fdiv 2).fmod m0 = sh at *
  have m2m : mulOk 2 m3 = true := mulOk_l (bd_lit _) (by decide +kernel)
  have n3 : 2 * m3 + 1 ≠ 0 := by omega
  have bx : ∀ c : Int, bd 104 (c.fmod (2 * m3 + 1) - m3) := fun c => bd_mono (bd_sub (bd_fmod (bd_add (bd_mul (bd_lit 2) bm3) (bd_lit 1)) (by omega)) bm3) (by decide)
  have ms : ∀ c : Int, mulOk sh (c.fmod (2 * m3 + 1) - m3) = true := fun c => mulOk_bd bsh (bx c) (by decide)
  have bt : ∀ c : Int, bd 210 (sh * (c.fmod (2 * m3 + 1) - m3)) := fun c => bd_mono (bd_mul bsh (bx c)) (by decide)
  have btop := bt c1
  have bbot := bt c2
  have ms1 := ms c1
  have ms2 := ms c2
  generalize hu1 : c1.fmod (2 * m3 + 1) - m3 = u1 at *
  generalize hu2 : c2.fmod (2 * m3 + 1) - m3 = u2 at *
  have bsh2 : bd 210 sh := bd_mono bsh (by decide)
  have b1' : bd 210 (1 : Int) := bd_of (by decide)
  have s0 : sh ≠ 0 := by omega
  have r2 : iterO .range [.int 2] = some [.int 0, .int 1] := by rfl
  have rf := fun a => e_ref i_re i_on i_fx a
  obtain ⟨f3, g3⟩ := lf (sh * u1) 1 210 btop b1' (by decide) (by decide)
  have i3 := e_is i_is i_if i_wh i_dl btop b1' (by decide) (by decide) g3
  refine ⟨false, ?_⟩
  have main : ∀ bot : Int, bot ≠ 0 → bd 210 bot → (thn Φ (.cons (.ret [] (.call "_law_is" (.cons (.call "fraction" (.cons (.var 3) (.cons (.cst (.int 1)) .nil))) (.cons (.var 3) (.cons (.cst (.int 1)) .nil))))) .nil) (exec Φ (.for_ (.nm 5) .range [] (.cons (.cst (.int 2)) .nil) (.cons (.iff [] (.or (.not (.call "_law_is" (.cons (.call "fraction" (.cons (.var 3) (.cons (.var 4) .nil))) (.cons (.var 3) (.cons (.var 4) .nil))))) (.not (.call "_law_is" (.cons (.call "fraction" (.cons (.var 4) (.cons (.var 1) .nil))) (.cons (.var 4) (.cons (.var 1) .nil)))))) (.cons (.ret [] (.cst (.bool false))) .nil) .nil) (.cons (.iff [] (.or (.not (.call "_law_refused" (.cons (.var 3) .nil))) (.not (.call "_law_refused" (.cons (.cst (.int 0)) .nil)))) (.cons (.ret [] (.cst (.bool false))) .nil) .nil) .nil)))
      [some (scr (ns.map .int), false), some (.int sh, false), some (.int m3, false), some (.int (sh * u1), false), some (.int bot, false), none])).bind outV = some (.bool true, false) := fun bot hb0 hb => by
    obtain ⟨f1, g1⟩ := lf (sh * u1) bot 210 btop hb (by decide) hb0
    obtain ⟨f2, g2⟩ := lf bot sh 210 hb bsh2 (by decide) s0
    have i1 := e_is i_is i_if i_wh i_dl btop hb (by decide) hb0 g1
    have i2 := e_is i_is i_if i_wh i_dl hb bsh2 (by decide) s0 g2
    simp [init, ev_var, ev_brw, ev_cst, ev_bin, ev_neg, ev_not, ev_cmp, ev_and, ev_or, ev_ite, ev_call, ev_bi, ev_isi, ev_idx, ev_sl, ev_tup, ev_lst, ev_lc, evs_nil, evs_cons, evb_nil, evb_cons, evo_nil, evo_cons, ex_nil, ex_pass, ex_brk, ex_cons, ex_asg, ex_unp, ex_par, ex_aug, ex_ret, ex_retv, ex_iff, ex_for, ex_forc, forcX.eq_1, ex_whl, ex_app, ex_seti, ev_dnew, ev_dnewI, setkX.eq_1, setiX.eq_1, setiX.eq_2, ex_try, ex_hnd, phX.eq_1, try_exc, try_l, try_t, tryO_nil, tryO_one, hnd_eq, hndE.eq_1, hndE.eq_2, ex_pop, ex_clr, ex_revl, varX.eq_1, varX.eq_2, brwX.eq_1, binX.eq_1, negX.eq_1, notX.eq_1, cmpX.eq_1, boX.eq_1, andX.eq_1, andX.eq_2, orX.eq_1, orX.eq_2, iteX.eq_1, iteX.eq_2, retX.eq_1, retX.eq_2, callX.eq_1, biX.eq_1, isiX.eq_1, idxX.eq_1, slX.eq_1, tupX.eq_1, lstX.eq_1, iterX.eq_1, lcX.eq_1, consX.eq_1, consX.eq_2, consB.eq_1, oX.eq_1, thn.eq_1, thn.eq_2, thn.eq_3, asgX.eq_1, asgX.eq_2, unpX.eq_1, unpX.eq_2, parX.eq_1, augX.eq_1, retvX.eq_1, rtX.eq_1, rtX.eq_2, iffX.eq_1, iffX.eq_2, putX.eq_1, ownX.eq_1, appX.eq_1, appX.eq_2, popX.eq_1, mapX.eq_1, frz, frzAt, aft, asI, asB, asT, asTL.eq_1, asTL.eq_2, asL, fl_t, fl_l, fl_d, fl_i, fl_b, fl_n, fl_tp, fa_nil, fa_cons, fa_tp, fa_int, ks_l, ks_lz, ks_t, ks_i, ks_b, ks_n, ks_d, ks_tp, aftR, sc_l, sc_t, sc_i, sc_b, sc_n, outV, ty_ii, ty_bi, ty_ll, ty_tt, ty_bb, ty_ib, ty_lt, ty_li, ty_ls, ty_ss, ty_sl, ty_st, bindT, setMany, setL, intAt, catL, cm_lt, cm_le, cm_gt, cm_ge, cm_eqi, cm_nei, op_add, op_sub, op_mul, op_fdiv, op_mod, ix_t0, ix_t1, ix_t2, scal_tp, pow_ok, len_l, len_t, len_s, xb_abs, xb_max2, xb_min2, xb_list, xb_listT, xb_intb, xb_inti, xb_min, xb_max, it_seq, it_seqT, it_seqS, it_enum, it_zip, it_rev, r2, fu_nil, fu_cons, forR.eq_1, forR.eq_2, forR.eq_3, forK.eq_1, f1, f2, f3, i1, i2, i3, rf]
  rw [i_law, ev_f _ rfl]
  by_cases hb : sh * u2 = 0
  · have := main (-sh) (by omega) (bd_neg bsh2)
    simp [init, ev_var, ev_brw, ev_cst, ev_bin, ev_neg, ev_not, ev_cmp, ev_and, ev_or, ev_ite, ev_call, ev_bi, ev_isi, ev_idx, ev_sl, ev_tup, ev_lst, ev_lc, evs_nil, evs_cons, evb_nil, evb_cons, evo_nil, evo_cons, ex_nil, ex_pass, ex_brk, ex_cons, ex_asg, ex_unp, ex_par, ex_aug, ex_ret, ex_retv, ex_iff, ex_for, ex_forc, forcX.eq_1, ex_whl, ex_app, ex_seti, ev_dnew, ev_dnewI, setkX.eq_1, setiX.eq_1, setiX.eq_2, ex_try, ex_hnd, phX.eq_1, try_exc, try_l, try_t, tryO_nil, tryO_one, hnd_eq, hndE.eq_1, hndE.eq_2, ex_pop, ex_clr, ex_revl, varX.eq_1, varX.eq_2, brwX.eq_1, binX.eq_1, negX.eq_1, notX.eq_1, cmpX.eq_1, boX.eq_1, andX.eq_1, andX.eq_2, orX.eq_1, orX.eq_2, iteX.eq_1, iteX.eq_2, retX.eq_1, retX.eq_2, callX.eq_1, biX.eq_1, isiX.eq_1, idxX.eq_1, slX.eq_1, tupX.eq_1, lstX.eq_1, iterX.eq_1, lcX.eq_1, consX.eq_1, consX.eq_2, consB.eq_1, oX.eq_1, thn.eq_1, thn.eq_2, thn.eq_3, asgX.eq_1, asgX.eq_2, unpX.eq_1, unpX.eq_2, parX.eq_1, augX.eq_1, retvX.eq_1, rtX.eq_1, rtX.eq_2, iffX.eq_1, iffX.eq_2, putX.eq_1, ownX.eq_1, appX.eq_1, appX.eq_2, popX.eq_1, mapX.eq_1, frz, frzAt, aft, asI, asB, asT, asTL.eq_1, asTL.eq_2, asL, fl_t, fl_l, fl_d, fl_i, fl_b, fl_n, fl_tp, fa_nil, fa_cons, fa_tp, fa_int, ks_l, ks_lz, ks_t, ks_i, ks_b, ks_n, ks_d, ks_tp, aftR, sc_l, sc_t, sc_i, sc_b, sc_n, outV, ty_ii, ty_bi, ty_ll, ty_tt, ty_bb, ty_ib, ty_lt, ty_li, ty_ls, ty_ss, ty_sl, ty_st, bindT, setMany, setL, intAt, catL, cm_lt, cm_le, cm_gt, cm_ge, cm_eqi, cm_nei, op_add, op_sub, op_mul, op_fdiv, op_mod, ix_t0, ix_t1, ix_t2, scal_tp, pow_ok, len_l, len_t, len_s, xb_abs, xb_max2, xb_min2, xb_list, xb_listT, xb_intb, xb_inti, xb_min, xb_max, it_seq, it_seqT, it_seqS, it_enum, it_zip, it_rev] at this
    simp [f_law, init, ev_var, ev_brw, ev_cst, ev_bin, ev_neg, ev_not, ev_cmp, ev_and, ev_or, ev_ite, ev_call, ev_bi, ev_isi, ev_idx, ev_sl, ev_tup, ev_lst, ev_lc, evs_nil, evs_cons, evb_nil, evb_cons, evo_nil, evo_cons, ex_nil, ex_pass, ex_brk, ex_cons, ex_asg, ex_unp, ex_par, ex_aug, ex_ret, ex_retv, ex_iff, ex_for, ex_forc, forcX.eq_1, ex_whl, ex_app, ex_seti, ev_dnew, ev_dnewI, setkX.eq_1, setiX.eq_1, setiX.eq_2, ex_try, ex_hnd, phX.eq_1, try_exc, try_l, try_t, tryO_nil, tryO_one, hnd_eq, hndE.eq_1, hndE.eq_2, ex_pop, ex_clr, ex_revl, varX.eq_1, varX.eq_2, brwX.eq_1, binX.eq_1, negX.eq_1, notX.eq_1, cmpX.eq_1, boX.eq_1, andX.eq_1, andX.eq_2, orX.eq_1, orX.eq_2, iteX.eq_1, iteX.eq_2, retX.eq_1, retX.eq_2, callX.eq_1, biX.eq_1, isiX.eq_1, idxX.eq_1, slX.eq_1, tupX.eq_1, lstX.eq_1, iterX.eq_1, lcX.eq_1, consX.eq_1, consX.eq_2, consB.eq_1, oX.eq_1, thn.eq_1, thn.eq_2, thn.eq_3, asgX.eq_1, asgX.eq_2, unpX.eq_1, unpX.eq_2, parX.eq_1, augX.eq_1, retvX.eq_1, rtX.eq_1, rtX.eq_2, iffX.eq_1, iffX.eq_2, putX.eq_1, ownX.eq_1, appX.eq_1, appX.eq_2, popX.eq_1, mapX.eq_1, frz, frzAt, aft, asI, asB, asT, asTL.eq_1, asTL.eq_2, asL, fl_t, fl_l, fl_d, fl_i, fl_b, fl_n, fl_tp, fa_nil, fa_cons, fa_tp, fa_int, ks_l, ks_lz, ks_t, ks_i, ks_b, ks_n, ks_d, ks_tp, aftR, sc_l, sc_t, sc_i, sc_b, sc_n, outV, ty_ii, ty_bi, ty_ll, ty_tt, ty_bb, ty_ib, ty_lt, ty_li, ty_ls, ty_ss, ty_sl, ty_st, bindT, setMany, setL, intAt, catL, cm_lt, cm_le, cm_gt, cm_ge, cm_eqi, cm_nei, op_add, op_sub, op_mul, op_fdiv, op_mod, ix_t0, ix_t1, ix_t2, scal_tp, pow_ok, len_l, len_t, len_s, xb_abs, xb_max2, xb_min2, xb_list, xb_listT, xb_intb, xb_inti, xb_min, xb_max, it_seq, it_seqT, it_seqS, it_enum, it_zip, it_rev, e0, e1, e2, e3, d2, p30, em0, em3, n0, hsh, m2m, n3, hu1, hu2, ms1, ms2, hb]
    exact this
  · have := main (sh * u2) hb bbot
    simp [init, ev_var, ev_brw, ev_cst, ev_bin, ev_neg, ev_not, ev_cmp, ev_and, ev_or, ev_ite, ev_call, ev_bi, ev_isi, ev_idx, ev_sl, ev_tup, ev_lst, ev_lc, evs_nil, evs_cons, evb_nil, evb_cons, evo_nil, evo_cons, ex_nil, ex_pass, ex_brk, ex_cons, ex_asg, ex_unp, ex_par, ex_aug, ex_ret, ex_retv, ex_iff, ex_for, ex_forc, forcX.eq_1, ex_whl, ex_app, ex_seti, ev_dnew, ev_dnewI, setkX.eq_1, setiX.eq_1, setiX.eq_2, ex_try, ex_hnd, phX.eq_1, try_exc, try_l, try_t, tryO_nil, tryO_one, hnd_eq, hndE.eq_1, hndE.eq_2, ex_pop, ex_clr, ex_revl, varX.eq_1, varX.eq_2, brwX.eq_1, binX.eq_1, negX.eq_1, notX.eq_1, cmpX.eq_1, boX.eq_1, andX.eq_1, andX.eq_2, orX.eq_1, orX.eq_2, iteX.eq_1, iteX.eq_2, retX.eq_1, retX.eq_2, callX.eq_1, biX.eq_1, isiX.eq_1, idxX.eq_1, slX.eq_1, tupX.eq_1, lstX.eq_1, iterX.eq_1, lcX.eq_1, consX.eq_1, consX.eq_2, consB.eq_1, oX.eq_1, thn.eq_1, thn.eq_2, thn.eq_3, asgX.eq_1, asgX.eq_2, unpX.eq_1, unpX.eq_2, parX.eq_1, augX.eq_1, retvX.eq_1, rtX.eq_1, rtX.eq_2, iffX.eq_1, iffX.eq_2, putX.eq_1, ownX.eq_1, appX.eq_1, appX.eq_2, popX.eq_1, mapX.eq_1, frz, frzAt, aft, asI, asB, asT, asTL.eq_1, asTL.eq_2, asL, fl_t, fl_l, fl_d, fl_i, fl_b, fl_n, fl_tp, fa_nil, fa_cons, fa_tp, fa_int, ks_l, ks_lz, ks_t, ks_i, ks_b, ks_n, ks_d, ks_tp, aftR, sc_l, sc_t, sc_i, sc_b, sc_n, outV, ty_ii, ty_bi, ty_ll, ty_tt, ty_bb, ty_ib, ty_lt, ty_li, ty_ls, ty_ss, ty_sl, ty_st, bindT, setMany, setL, intAt, catL, cm_lt, cm_le, cm_gt, cm_ge, cm_eqi, cm_nei, op_add, op_sub, op_mul, op_fdiv, op_mod, ix_t0, ix_t1, ix_t2, scal_tp, pow_ok, len_l, len_t, len_s, xb_abs, xb_max2, xb_min2, xb_list, xb_listT, xb_intb, xb_inti, xb_min, xb_max, it_seq, it_seqT, it_seqS, it_enum, it_zip, it_rev] at this
    simp [f_law, init, ev_var, ev_brw, ev_cst, ev_bin, ev_neg, ev_not, ev_cmp, ev_and, ev_or, ev_ite, ev_call, ev_bi, ev_isi, ev_idx, ev_sl, ev_tup, ev_lst, ev_lc, evs_nil, evs_cons, evb_nil, evb_cons, evo_nil, evo_cons, ex_nil, ex_pass, ex_brk, ex_cons, ex_asg, ex_unp, ex_par, ex_aug, ex_ret, ex_retv, ex_iff, ex_for, ex_forc, forcX.eq_1, ex_whl, ex_app, ex_seti, ev_dnew, ev_dnewI, setkX.eq_1, setiX.eq_1, setiX.eq_2, ex_try, ex_hnd, phX.eq_1, try_exc, try_l, try_t, tryO_nil, tryO_one, hnd_eq, hndE.eq_1, hndE.eq_2, ex_pop, ex_clr, ex_revl, varX.eq_1, varX.eq_2, brwX.eq_1, binX.eq_1, negX.eq_1, notX.eq_1, cmpX.eq_1, boX.eq_1, andX.eq_1, andX.eq_2, orX.eq_1, orX.eq_2, iteX.eq_1, iteX.eq_2, retX.eq_1, retX.eq_2, callX.eq_1, biX.eq_1, isiX.eq_1, idxX.eq_1, slX.eq_1, tupX.eq_1, lstX.eq_1, iterX.eq_1, lcX.eq_1, consX.eq_1, consX.eq_2, consB.eq_1, oX.eq_1, thn.eq_1, thn.eq_2, thn.eq_3, asgX.eq_1, asgX.eq_2, unpX.eq_1, unpX.eq_2, parX.eq_1, augX.eq_1, retvX.eq_1, rtX.eq_1, rtX.eq_2, iffX.eq_1, iffX.eq_2, putX.eq_1, ownX.eq_1, appX.eq_1, appX.eq_2, popX.eq_1, mapX.eq_1, frz, frzAt, aft, asI, asB, asT, asTL.eq_1, asTL.eq_2, asL, fl_t, fl_l, fl_d, fl_i, fl_b, fl_n, fl_tp, fa_nil, fa_cons, fa_tp, fa_int, ks_l, ks_lz, ks_t, ks_i, ks_b, ks_n, ks_d, ks_tp, aftR, sc_l, sc_t, sc_i, sc_b, sc_n, outV, ty_ii, ty_bi, ty_ll, ty_tt, ty_bb, ty_ib, ty_lt, ty_li, ty_ls, ty_ss, ty_sl, ty_st, bindT, setMany, setL, intAt, catL, cm_lt, cm_le, cm_gt, cm_ge, cm_eqi, cm_nei, op_add, op_sub, op_mul, op_fdiv, op_mod, ix_t0, ix_t1, ix_t2, scal_tp, pow_ok, len_l, len_t, len_s, xb_abs, xb_max2, xb_min2, xb_list, xb_listT, xb_intb, xb_inti, xb_min, xb_max, it_seq, it_seqT, it_seqS, it_enum, it_zip, it_rev, e0, e1, e2, e3, d2, p30, em0, em3, n0, hsh, m2m, n3, hu1, hu2, ms1, ms2, hb]
    exact this
end K01.Q
theorem K01.law (ns : List Int) (hn : ns.length ≤ 63) : ∃ o, Pv.look K01.tab "law" [Pv.scr (ns.map .int)] = some (.bool true, o) := K01.Q.law ns hn

set_option Elab.async false
set_option linter.all false
set_option maxRecDepth 100000
/-! Fn_k02: the codes of the defs. -/
namespace K02
open PySem Pv
def f__law_cell_at : Fn := ⟨2, 3, (.cons (.asg 2 [] (.cst (.int 0))) (.cons (.iff [] (.cmp .lt (.brw 1) (.bi .len (.cons (.brw 0) .nil))) (.cons (.asg 2 [] (.bin .mod (.idx (.brw 0) (.brw 1)) (.bin .pow (.cst (.int 10)) (.cst (.int 60))))) .nil) .nil) (.cons (.ret [] (.bin .add (.bin .mul (.brw 2) (.cst (.int 1000003))) (.bin .mod (.bin .mul (.bin .mod (.bin .mul (.bin .add (.bin .add (.bin .add (.brw 2) (.bin .mul (.bin .mul (.cst (.int 7)) (.brw 1)) (.brw 1))) (.bin .mul (.cst (.int 13)) (.brw 1))) (.cst (.int 5))) (.cst (.int 48271))) (.cst (.int 2147483647))) (.cst (.int 69621))) (.cst (.int 1000000007))))) .nil)))⟩
def f__law_divisor : Fn := ⟨2, 3, (.cons (.asg 0 [] (.bi .abs (.cons (.brw 0) .nil))) (.cons (.asg 1 [] (.bi .abs (.cons (.brw 1) .nil))) (.cons (.whl (.cmp .gt (.brw 1) (.cst (.int 0))) (.cons (.asg 2 [] (.bin .mod (.brw 0) (.brw 1))) (.cons (.asg 0 [] (.var 1)) (.cons (.asg 1 [] (.var 2)) .nil)))) (.cons (.retv 0) .nil))))⟩
def f__law_fraction : Fn := ⟨2, 3, (.cons (.asg 2 [] (.call "_law_divisor" (.cons (.var 0) (.cons (.var 1) .nil)))) (.cons (.ret [] (.tup (.cons (.bin .fdiv (.brw 0) (.brw 2)) (.cons (.bin .fdiv (.brw 1) (.brw 2)) .nil)))) .nil))⟩
def f__law_drawn : Fn := ⟨3, 4, (.cons (.asg 3 [] (.idx (.lst (.cons (.cst (.int 12)) (.cons (.bin .sub (.bin .pow (.cst (.int 10)) (.cst (.int 30))) (.cst (.int 1))) .nil))) (.bin .mod (.brw 2) (.cst (.int 2))))) (.cons (.ret [] (.call "_law_fraction" (.cons (.bin .sub (.bin .mod (.brw 0) (.bin .add (.bin .mul (.cst (.int 2)) (.brw 3)) (.cst (.int 1)))) (.brw 3)) (.cons (.bin .add (.cst (.int 1)) (.bin .mod (.brw 1) (.brw 3))) .nil)))) .nil))⟩
def f_less : Fn := ⟨2, 2, (.cons (.ret [] (.cmp .lt (.bin .mul (.idx (.brw 0) (.cst (.int 0))) (.idx (.brw 1) (.cst (.int 1)))) (.bin .mul (.idx (.brw 1) (.cst (.int 0))) (.idx (.brw 0) (.cst (.int 1)))))) .nil)⟩
def f__law_whole : Fn := ⟨1, 1, (.cons (.ret [] (.and (.isi .int (.brw 0)) (.not (.isi .bool (.brw 0))))) .nil)⟩
def f__law_is_fraction : Fn := ⟨1, 1, (.cons (.iff [] (.or (.not (.isi .tuple (.brw 0))) (.cmp .ne (.bi .len (.cons (.brw 0) .nil)) (.cst (.int 2)))) (.cons (.ret [] (.cst (.bool false))) .nil) .nil) (.cons (.iff [] (.or (.not (.call "_law_whole" (.cons (.idx (.brw 0) (.cst (.int 0))) .nil))) (.or (.not (.call "_law_whole" (.cons (.idx (.brw 0) (.cst (.int 1))) .nil))) (.cmp .lt (.idx (.brw 0) (.cst (.int 1))) (.cst (.int 1))))) (.cons (.ret [] (.cst (.bool false))) .nil) .nil) (.cons (.ret [] (.cmp .eq (.call "_law_divisor" (.cons (.idx (.brw 0) (.cst (.int 0))) (.cons (.idx (.brw 0) (.cst (.int 1))) .nil))) (.cst (.int 1)))) .nil)))⟩
def f__law_is : Fn := ⟨3, 3, (.cons (.ret [] (.and (.call "_law_is_fraction" (.cons (.var 0) .nil)) (.cmp .eq (.bin .mul (.idx (.brw 0) (.cst (.int 0))) (.brw 2)) (.bin .mul (.brw 1) (.idx (.brw 0) (.cst (.int 1))))))) .nil)⟩
def f_divisor : Fn := ⟨2, 3, (.cons (.asg 0 [] (.bi .abs (.cons (.brw 0) .nil))) (.cons (.asg 1 [] (.bi .abs (.cons (.brw 1) .nil))) (.cons (.whl (.cmp .ne (.brw 1) (.cst (.int 0))) (.cons (.asg 2 [] (.bin .mod (.brw 0) (.brw 1))) (.cons (.asg 0 [] (.var 1)) (.cons (.asg 1 [] (.var 2)) .nil)))) (.cons (.retv 0) .nil))))⟩
def f_fraction : Fn := ⟨2, 3, (.cons (.iff [] (.cmp .eq (.brw 1) (.cst (.int 0))) (.cons .never .nil) .nil) (.cons (.asg 2 [] (.call "divisor" (.cons (.var 0) (.cons (.var 1) .nil)))) (.cons (.iff [] (.cmp .lt (.brw 1) (.cst (.int 0))) (.cons (.asg 2 [] (.neg (.brw 2))) .nil) .nil) (.cons (.ret [] (.tup (.cons (.bin .fdiv (.brw 0) (.brw 2)) (.cons (.bin .fdiv (.brw 1) (.brw 2)) .nil)))) .nil))))⟩
def f_plus : Fn := ⟨2, 2, (.cons (.ret [] (.call "fraction" (.cons (.bin .add (.bin .mul (.idx (.brw 0) (.cst (.int 0))) (.idx (.brw 1) (.cst (.int 1)))) (.bin .mul (.idx (.brw 1) (.cst (.int 0))) (.idx (.brw 0) (.cst (.int 1))))) (.cons (.bin .mul (.idx (.brw 0) (.cst (.int 1))) (.idx (.brw 1) (.cst (.int 1)))) .nil)))) .nil)⟩
def f_minus : Fn := ⟨2, 2, (.cons (.ret [] (.call "fraction" (.cons (.bin .sub (.bin .mul (.idx (.brw 0) (.cst (.int 0))) (.idx (.brw 1) (.cst (.int 1)))) (.bin .mul (.idx (.brw 1) (.cst (.int 0))) (.idx (.brw 0) (.cst (.int 1))))) (.cons (.bin .mul (.idx (.brw 0) (.cst (.int 1))) (.idx (.brw 1) (.cst (.int 1)))) .nil)))) .nil)⟩
def f_times : Fn := ⟨2, 2, (.cons (.ret [] (.call "fraction" (.cons (.bin .mul (.idx (.brw 0) (.cst (.int 0))) (.idx (.brw 1) (.cst (.int 0)))) (.cons (.bin .mul (.idx (.brw 0) (.cst (.int 1))) (.idx (.brw 1) (.cst (.int 1)))) .nil)))) .nil)⟩
def fR_fraction : Fn := ⟨2, 3, (.cons (.iff [] (.cmp .eq (.brw 1) (.cst (.int 0))) (.cons (.ret [] (.cst (excD "NoFraction"))) .nil) .nil) (.cons (.asg 2 [] (.call "divisor" (.cons (.var 0) (.cons (.var 1) .nil)))) (.cons (.iff [] (.cmp .lt (.brw 1) (.cst (.int 0))) (.cons (.asg 2 [] (.neg (.brw 2))) .nil) .nil) (.cons (.ret [] (.tup (.cons (.bin .fdiv (.brw 0) (.brw 2)) (.cons (.bin .fdiv (.brw 1) (.brw 2)) .nil)))) .nil))))⟩
def fR_over : Fn := ⟨2, 2, (.cons (.ret [] (.call "!fraction" (.cons (.bin .mul (.idx (.brw 0) (.cst (.int 0))) (.idx (.brw 1) (.cst (.int 1)))) (.cons (.bin .mul (.idx (.brw 0) (.cst (.int 1))) (.idx (.brw 1) (.cst (.int 0)))) .nil)))) .nil)⟩
def f__law_only : Fn := ⟨1, 2, (.cons (.ret [] (.lc (.nm 1) .range (.cons (.cst (.int 11)) .nil) (.cst (.bool true)) (.cmp .inn (.brw 1) (.tup (.cons (.cst (.int 0)) (.cons (.var 0) .nil)))))) .nil)⟩
def f__law_refused : Fn := ⟨2, 4, (.cons (.asg 2 [] (.cst .none)) (.cons (.tryx [] [] "!over" (.cons (.var 0) (.cons (.var 1) .nil)) 3 (.hnd 3 "NoFraction" (.cons (.asg 2 [] (.lst (.cons (.cst (.bool true)) (.cons (.cst (.bool true)) (.cons (.cst (.bool false)) (.cons (.cst (.bool false)) (.cons (.cst (.bool false)) (.cons (.cst (.bool false)) (.cons (.cst (.bool false)) (.cons (.cst (.bool false)) (.cons (.cst (.bool false)) (.cons (.cst (.bool false)) (.cons (.cst (.bool false)) .nil))))))))))))) .nil) .never)) (.cons (.ret [] (.cmp .eq (.brw 2) (.call "_law_only" (.cons (.cst (.int 1)) .nil)))) .nil)))⟩
def f_over : Fn := ⟨2, 2, (.cons (.ret [] (.call "fraction" (.cons (.bin .mul (.idx (.brw 0) (.cst (.int 0))) (.idx (.brw 1) (.cst (.int 1)))) (.cons (.bin .mul (.idx (.brw 0) (.cst (.int 1))) (.idx (.brw 1) (.cst (.int 0)))) .nil)))) .nil)⟩
def f__law_pair_holds : Fn := ⟨2, 3, (.cons (.iff [] (.not (.call "_law_is" (.cons (.call "plus" (.cons (.var 0) (.cons (.var 1) .nil))) (.cons (.bin .add (.bin .mul (.idx (.brw 0) (.cst (.int 0))) (.idx (.brw 1) (.cst (.int 1)))) (.bin .mul (.idx (.brw 1) (.cst (.int 0))) (.idx (.brw 0) (.cst (.int 1))))) (.cons (.bin .mul (.idx (.brw 0) (.cst (.int 1))) (.idx (.brw 1) (.cst (.int 1)))) .nil))))) (.cons (.ret [] (.cst (.bool false))) .nil) .nil) (.cons (.iff [] (.not (.call "_law_is" (.cons (.call "minus" (.cons (.var 0) (.cons (.var 1) .nil))) (.cons (.bin .sub (.bin .mul (.idx (.brw 0) (.cst (.int 0))) (.idx (.brw 1) (.cst (.int 1)))) (.bin .mul (.idx (.brw 1) (.cst (.int 0))) (.idx (.brw 0) (.cst (.int 1))))) (.cons (.bin .mul (.idx (.brw 0) (.cst (.int 1))) (.idx (.brw 1) (.cst (.int 1)))) .nil))))) (.cons (.ret [] (.cst (.bool false))) .nil) .nil) (.cons (.iff [] (.not (.call "_law_is" (.cons (.call "times" (.cons (.var 0) (.cons (.var 1) .nil))) (.cons (.bin .mul (.idx (.brw 0) (.cst (.int 0))) (.idx (.brw 1) (.cst (.int 0)))) (.cons (.bin .mul (.idx (.brw 0) (.cst (.int 1))) (.idx (.brw 1) (.cst (.int 1)))) .nil))))) (.cons (.ret [] (.cst (.bool false))) .nil) .nil) (.cons (.iff [] (.and (.cmp .eq (.idx (.brw 1) (.cst (.int 0))) (.cst (.int 0))) (.not (.call "_law_refused" (.cons (.var 0) (.cons (.var 1) .nil))))) (.cons (.ret [] (.cst (.bool false))) .nil) .nil) (.cons (.iff [] (.and (.cmp .ne (.idx (.brw 1) (.cst (.int 0))) (.cst (.int 0))) (.not (.call "_law_is" (.cons (.call "over" (.cons (.var 0) (.cons (.var 1) .nil))) (.cons (.bin .mul (.idx (.brw 0) (.cst (.int 0))) (.idx (.brw 1) (.cst (.int 1)))) (.cons (.bin .mul (.idx (.brw 0) (.cst (.int 1))) (.idx (.brw 1) (.cst (.int 0)))) .nil)))))) (.cons (.ret [] (.cst (.bool false))) .nil) .nil) (.cons (.asg 2 [] (.call "less" (.cons (.var 0) (.cons (.var 1) .nil)))) (.cons (.ret [] (.and (.isi .bool (.brw 2)) (.and (.cmp .eq (.brw 2) (.cmp .lt (.bin .mul (.idx (.brw 0) (.cst (.int 0))) (.idx (.brw 1) (.cst (.int 1)))) (.bin .mul (.idx (.brw 1) (.cst (.int 0))) (.idx (.brw 0) (.cst (.int 1)))))) (.cmp .isn (.call "less" (.cons (.var 0) (.cons (.var 0) .nil))) (.cst (.bool false)))))) .nil)))))))⟩
def f_law : Fn := ⟨1, 7, (.cons (.asg 1 [] (.call "_law_cell_at" (.cons (.var 0) (.cons (.cst (.int 4)) .nil)))) (.cons (.asg 2 [] (.call "_law_drawn" (.cons (.call "_law_cell_at" (.cons (.var 0) (.cons (.cst (.int 0)) .nil))) (.cons (.call "_law_cell_at" (.cons (.var 0) (.cons (.cst (.int 1)) .nil))) (.cons (.var 1) .nil))))) (.cons (.asg 3 [] (.call "_law_drawn" (.cons (.call "_law_cell_at" (.cons (.var 0) (.cons (.cst (.int 2)) .nil))) (.cons (.call "_law_cell_at" (.cons (.var 0) (.cons (.cst (.int 3)) .nil))) (.cons (.bin .fdiv (.brw 1) (.cst (.int 2))) .nil))))) (.cons (.asg 4 [] (.bin .mod (.bin .fdiv (.brw 1) (.cst (.int 4))) (.cst (.int 4)))) (.cons (.iff [] (.cmp .eq (.brw 4) (.cst (.int 1))) (.cons (.asg 3 [] (.tup (.cons (.cst (.int 0)) (.cons (.cst (.int 1)) .nil)))) .nil) .nil) (.cons (.iff [] (.cmp .eq (.brw 4) (.cst (.int 2))) (.cons (.asg 3 [] (.var 2)) .nil) .nil) (.cons (.iff [] (.cmp .eq (.brw 4) (.cst (.int 3))) (.cons (.asg 6 [] (.bin .add (.cst (.int 1)) (.bin .mod (.call "_law_cell_at" (.cons (.var 0) (.cons (.cst (.int 3)) .nil))) (.bin .pow (.cst (.int 10)) (.cst (.int 20)))))) (.cons (.asg 3 [] (.call "_law_fraction" (.cons (.bin .sub (.bin .add (.bin .mul (.idx (.brw 2) (.cst (.int 0))) (.brw 6)) (.cst (.int 1))) (.bin .mul (.cst (.int 2)) (.bin .mod (.bin .fdiv (.brw 1) (.cst (.int 16))) (.cst (.int 2))))) (.cons (.bin .mul (.idx (.brw 2) (.cst (.int 1))) (.brw 6)) .nil)))) .nil)) .nil) (.cons (.for_ (.nm 5) .range [] (.cons (.cst (.int 2)) .nil) (.cons (.iff [] (.or (.not (.call "_law_pair_holds" (.cons (.var 2) (.cons (.var 3) .nil)))) (.not (.call "_law_pair_holds" (.cons (.var 3) (.cons (.var 2) .nil))))) (.cons (.ret [] (.cst (.bool false))) .nil) .nil) .nil)) (.cons (.ret [] (.cst (.bool true))) .nil)))))))))⟩
def tab : List (Str × Fn) := [(("law" : Str), f_law), (("_law_pair_holds" : Str), f__law_pair_holds), (("over" : Str), f_over), (("_law_refused" : Str), f__law_refused), (("_law_only" : Str), f__law_only), (("!over" : Str), fR_over), (("!fraction" : Str), fR_fraction), (("times" : Str), f_times), (("minus" : Str), f_minus), (("plus" : Str), f_plus), (("fraction" : Str), f_fraction), (("divisor" : Str), f_divisor), (("_law_is" : Str), f__law_is), (("_law_is_fraction" : Str), f__law_is_fraction), (("_law_whole" : Str), f__law_whole), (("less" : Str), f_less), (("_law_drawn" : Str), f__law_drawn), (("_law_fraction" : Str), f__law_fraction), (("_law_divisor" : Str), f__law_divisor), (("_law_cell_at" : Str), f__law_cell_at)]
theorem tab_ok : tableOk tab = true := by kernel_rfl
end K02

set_option Elab.async false
set_option linter.all false
set_option maxRecDepth 100000
/-! L02: fractions reckoned. -/
namespace K02.Q
open Pv K07 K33.Q K01.Q
open PySem (PyData Str)
theorem e_lfr {Φ : Ph} (h : Impl Φ "_law_fraction" f__law_fraction) (hd : Impl Φ "_law_divisor" f__law_divisor) {a b : Int} {n : Nat} (ha : bd n a) (hb : bd n b) (hn : n ≤ 8000) (h0 : 0 < b) : Φ "_law_fraction" [.int a, .int b] = some (tp (N (Rat.divInt a b)), false) ∧ sz n (Rat.divInt a b) := by
  have w := e_divl hd a b
  have key : ∃ p : P, Φ "_law_fraction" [.int a, .int b] = some (tp p, false) ∧ fr n p ∧ p.1 * b = p.2 * a := by
    generalize hg : Nat.gcd a.natAbs b.natAbs = g at w
    have g0 : 0 < g := by rw [← hg]; exact Nat.gcd_pos_of_pos_right _ (Int.natAbs_pos.mpr (by omega))
    obtain ⟨x, hx⟩ : (g : Int) ∣ a := by rw [← hg]; exact Int.natAbs_dvd_natAbs.mp (by simpa using Nat.gcd_dvd_left a.natAbs b.natAbs)
    obtain ⟨y, hy⟩ : (g : Int) ∣ b := by rw [← hg]; exact Int.natAbs_dvd_natAbs.mp (by simpa using Nat.gcd_dvd_right a.natAbs b.natAbs)
    have gb : bd n (g : Int) := bd_abs hb (by
      have := Nat.le_of_dvd (Int.natAbs_pos.mpr (by omega)) (show g ∣ b.natAbs by rw [← hg]; exact Nat.gcd_dvd_right _ _)
      simpa using this)
    have gi : (0 : Int) < (g : Int) := by omega
    have cxy : Nat.gcd x.natAbs y.natAbs = 1 := by
      have e : Nat.gcd (g * x.natAbs) (g * y.natAbs) = g := by
        have h1 : a.natAbs = g * x.natAbs := by rw [hx, Int.natAbs_mul]; rfl
        have h2 : b.natAbs = g * y.natAbs := by rw [hy, Int.natAbs_mul]; rfl
        rw [← h1, ← h2]; exact hg
      rw [Nat.gcd_mul_left] at e
      exact Nat.eq_of_mul_eq_mul_left g0 (by rw [e, Nat.mul_one])
    have d1 : divOk ((g : Int)) = true := divOk_bd gb (by omega) (by omega)
    have ex : a.fdiv ((g : Int)) = x := by rw [hx]; exact exact_div (by omega)
    have ey : b.fdiv ((g : Int)) = y := by rw [hy]; exact exact_div (by omega)
    have y0 : 0 < y := by
      rcases Int.lt_or_le 0 y with z | z
      · exact z
      · have : (g : Int) * y ≤ 0 := Int.mul_nonpos_of_nonneg_of_nonpos (Int.le_of_lt gi) z
        omega
    refine ⟨(x, y), ?_, ⟨bd_abs ha ?_, bd_abs hb ?_, y0, cxy⟩, ?_⟩
    · rw [h, ev_f _ rfl]
      simp [f__law_fraction, init, ev_var, ev_brw, ev_cst, ev_bin, ev_neg, ev_not, ev_cmp, ev_and, ev_or, ev_ite, ev_call, ev_bi, ev_isi, ev_idx, ev_sl, ev_tup, ev_lst, ev_lc, evs_nil, evs_cons, evb_nil, evb_cons, evo_nil, evo_cons, ex_nil, ex_pass, ex_brk, ex_cons, ex_asg, ex_unp, ex_par, ex_aug, ex_ret, ex_retv, ex_iff, ex_for, ex_forc, forcX.eq_1, ex_whl, ex_app, ex_seti, ev_dnew, ev_dnewI, setkX.eq_1, setiX.eq_1, setiX.eq_2, ex_try, ex_hnd, phX.eq_1, try_exc, try_l, try_t, tryO_nil, tryO_one, hnd_eq, hndE.eq_1, hndE.eq_2, ex_pop, ex_clr, ex_revl, varX.eq_1, varX.eq_2, brwX.eq_1, binX.eq_1, negX.eq_1, notX.eq_1, cmpX.eq_1, boX.eq_1, andX.eq_1, andX.eq_2, orX.eq_1, orX.eq_2, iteX.eq_1, iteX.eq_2, retX.eq_1, retX.eq_2, callX.eq_1, biX.eq_1, isiX.eq_1, idxX.eq_1, slX.eq_1, tupX.eq_1, lstX.eq_1, iterX.eq_1, lcX.eq_1, consX.eq_1, consX.eq_2, consB.eq_1, oX.eq_1, thn.eq_1, thn.eq_2, thn.eq_3, asgX.eq_1, asgX.eq_2, unpX.eq_1, unpX.eq_2, parX.eq_1, augX.eq_1, retvX.eq_1, rtX.eq_1, rtX.eq_2, iffX.eq_1, iffX.eq_2, putX.eq_1, ownX.eq_1, appX.eq_1, appX.eq_2, popX.eq_1, mapX.eq_1, frz, frzAt, aft, asI, asB, asT, asTL.eq_1, asTL.eq_2, asL, fl_t, fl_l, fl_d, fl_i, fl_b, fl_n, fl_tp, fa_nil, fa_cons, fa_tp, fa_int, ks_l, ks_lz, ks_t, ks_i, ks_b, ks_n, ks_d, ks_tp, aftR, sc_l, sc_t, sc_i, sc_b, sc_n, outV, ty_ii, ty_bi, ty_ll, ty_tt, ty_bb, ty_ib, ty_lt, ty_li, ty_ls, ty_ss, ty_sl, ty_st, bindT, setMany, setL, intAt, catL, cm_lt, cm_le, cm_gt, cm_ge, cm_eqi, cm_nei, op_add, op_sub, op_mul, op_fdiv, op_mod, ix_t0, ix_t1, ix_t2, scal_tp, pow_ok, len_l, len_t, len_s, xb_abs, xb_max2, xb_min2, xb_list, xb_listT, xb_intb, xb_inti, xb_min, xb_max, it_seq, it_seqT, it_seqS, it_enum, it_zip, it_rev, w, op_fdiv d1, ex, ey, tp]
    · rw [hx, Int.natAbs_mul]; exact Nat.le_mul_of_pos_left _ (by simpa using g0)
    · rw [hy, Int.natAbs_mul]; exact Nat.le_mul_of_pos_left _ (by simpa using g0)
    · show x * b = y * a
      rw [hx, hy]; grind
  obtain ⟨p, e, f, c⟩ := key
  have ep : Rat.divInt p.1 p.2 = Rat.divInt a b := (Rat.divInt_eq_divInt_iff (by have := f.pos; omega) (by omega)).mpr (by rw [c, Int.mul_comm])
  have e2 := fr_N f
  rw [ep] at e2
  exact ⟨by rw [e, e2], by unfold sz; rw [← e2]; exact f⟩
theorem e_drawn {Φ : Ph} (h : Impl Φ "_law_drawn" f__law_drawn) (hf : Impl Φ "_law_fraction" f__law_fraction) (hd : Impl Φ "_law_divisor" f__law_divisor) (c o k : Int) : ∃ x : Rat, Φ "_law_drawn" [.int c, .int o, .int k] = some (tp (N x), false) ∧ sz 110 x := by
  have p30 : powOk 10 30 = true := by decide
  have pick : ∀ c : Int, ∃ m : Int, idxO (.list [.int 12, .int 999999999999999999999999999999]) (.int (c.fmod 2)) = some (.int m) ∧ 12 ≤ m ∧ bd 100 m := fun c => by
    have h1 := Int.fmod_nonneg_of_pos c (show (0 : Int) < 2 by decide)
    have h2 := Int.fmod_lt_of_pos c (show (0 : Int) < 2 by decide)
    rcases (show c.fmod 2 = 0 ∨ c.fmod 2 = 1 by omega) with e | e
    · rw [e]; exact ⟨12, by rw [ix_l]; rfl, by decide, bd_of (by decide)⟩
    · rw [e]; exact ⟨999999999999999999999999999999, by rw [ix_l]; rfl, by decide +kernel, bd_of (by decide +kernel)⟩
  obtain ⟨m, em, lm, bm⟩ := pick k
  have m2m : mulOk 2 m = true := mulOk_l (bd_lit _) (by decide +kernel)
  have n0 : m ≠ 0 := by omega
  have n3 : 2 * m + 1 ≠ 0 := by omega
  have h1 := Int.fmod_nonneg_of_pos o (show (0 : Int) < m by omega)
  have bA : bd 110 (c.fmod (2 * m + 1) - m) := bd_mono (bd_sub (bd_fmod (bd_add (bd_mul (bd_lit 2) bm) (bd_lit 1)) (by omega)) bm) (by decide)
  have bB : bd 110 (1 + o.fmod m) := bd_mono (bd_add (bd_lit 1) (bd_fmod bm (by omega))) (by decide)
  obtain ⟨e, s⟩ := e_lfr hf hd bA bB (by decide) (by omega)
  refine ⟨_, ?_, s⟩
  rw [h, ev_f _ rfl]
  simp [f__law_drawn, init, ev_var, ev_brw, ev_cst, ev_bin, ev_neg, ev_not, ev_cmp, ev_and, ev_or, ev_ite, ev_call, ev_bi, ev_isi, ev_idx, ev_sl, ev_tup, ev_lst, ev_lc, evs_nil, evs_cons, evb_nil, evb_cons, evo_nil, evo_cons, ex_nil, ex_pass, ex_brk, ex_cons, ex_asg, ex_unp, ex_par, ex_aug, ex_ret, ex_retv, ex_iff, ex_for, ex_forc, forcX.eq_1, ex_whl, ex_app, ex_seti, ev_dnew, ev_dnewI, setkX.eq_1, setiX.eq_1, setiX.eq_2, ex_try, ex_hnd, phX.eq_1, try_exc, try_l, try_t, tryO_nil, tryO_one, hnd_eq, hndE.eq_1, hndE.eq_2, ex_pop, ex_clr, ex_revl, varX.eq_1, varX.eq_2, brwX.eq_1, binX.eq_1, negX.eq_1, notX.eq_1, cmpX.eq_1, boX.eq_1, andX.eq_1, andX.eq_2, orX.eq_1, orX.eq_2, iteX.eq_1, iteX.eq_2, retX.eq_1, retX.eq_2, callX.eq_1, biX.eq_1, isiX.eq_1, idxX.eq_1, slX.eq_1, tupX.eq_1, lstX.eq_1, iterX.eq_1, lcX.eq_1, consX.eq_1, consX.eq_2, consB.eq_1, oX.eq_1, thn.eq_1, thn.eq_2, thn.eq_3, asgX.eq_1, asgX.eq_2, unpX.eq_1, unpX.eq_2, parX.eq_1, augX.eq_1, retvX.eq_1, rtX.eq_1, rtX.eq_2, iffX.eq_1, iffX.eq_2, putX.eq_1, ownX.eq_1, appX.eq_1, appX.eq_2, popX.eq_1, mapX.eq_1, frz, frzAt, aft, asI, asB, asT, asTL.eq_1, asTL.eq_2, asL, fl_t, fl_l, fl_d, fl_i, fl_b, fl_n, fl_tp, fa_nil, fa_cons, fa_tp, fa_int, ks_l, ks_lz, ks_t, ks_i, ks_b, ks_n, ks_d, ks_tp, aftR, sc_l, sc_t, sc_i, sc_b, sc_n, outV, ty_ii, ty_bi, ty_ll, ty_tt, ty_bb, ty_ib, ty_lt, ty_li, ty_ls, ty_ss, ty_sl, ty_st, bindT, setMany, setL, intAt, catL, cm_lt, cm_le, cm_gt, cm_ge, cm_eqi, cm_nei, op_add, op_sub, op_mul, op_fdiv, op_mod, ix_t0, ix_t1, ix_t2, scal_tp, pow_ok, len_l, len_t, len_s, xb_abs, xb_max2, xb_min2, xb_list, xb_listT, xb_intb, xb_inti, xb_min, xb_max, it_seq, it_seqT, it_seqS, it_enum, it_zip, it_rev, p30, em, m2m, n0, n3, e]
theorem isb (a b : Bool) : cm .isn (.bool a) (.bool b) = some (decide (a = b)) := rfl
theorem cm_eqb (a b : Bool) : cm .eq (.bool a) (.bool b) = some (decide (a = b)) := cm_eq (α := Bool) (by decide) a b
theorem e_over {Φ : Ph} (h : Impl Φ "over" f_over) (lf : Lo Φ "fraction") {n m : Nat} {x y : Rat} (hx : sz n x) (hy : sz m y) (k : n + m + 1 ≤ 8000) (y0 : (N y).1 ≠ 0) :
    Φ "over" [tp (N x), tp (N y)] = some (tp (N (Rat.divInt ((N x).1 * (N y).2) ((N x).2 * (N y).1))), false) ∧ sz (n + m) (Rat.divInt ((N x).1 * (N y).2) ((N x).2 * (N y).1)) := by
  have m1 : mulOk (N x).1 (N y).2 = true := mulOk_bd hx.a hy.b (by omega)
  have m2 : mulOk (N x).2 (N y).1 = true := mulOk_bd hx.b hy.a (by omega)
  obtain ⟨e, s⟩ := lf ((N x).1 * (N y).2) ((N x).2 * (N y).1) (n + m) (bd_mul hx.a hy.b) (bd_mul hx.b hy.a) (by omega) (by
    intro z
    rcases Int.mul_eq_zero.mp z with z | z
    · exact N_ne x z
    · exact y0 z)
  refine ⟨?_, s⟩
  rw [h, ev_f _ rfl]
  simp [f_over, init, ev_var, ev_brw, ev_cst, ev_bin, ev_neg, ev_not, ev_cmp, ev_and, ev_or, ev_ite, ev_call, ev_bi, ev_isi, ev_idx, ev_sl, ev_tup, ev_lst, ev_lc, evs_nil, evs_cons, evb_nil, evb_cons, evo_nil, evo_cons, ex_nil, ex_pass, ex_brk, ex_cons, ex_asg, ex_unp, ex_par, ex_aug, ex_ret, ex_retv, ex_iff, ex_for, ex_forc, forcX.eq_1, ex_whl, ex_app, ex_seti, ev_dnew, ev_dnewI, setkX.eq_1, setiX.eq_1, setiX.eq_2, ex_try, ex_hnd, phX.eq_1, try_exc, try_l, try_t, tryO_nil, tryO_one, hnd_eq, hndE.eq_1, hndE.eq_2, ex_pop, ex_clr, ex_revl, varX.eq_1, varX.eq_2, brwX.eq_1, binX.eq_1, negX.eq_1, notX.eq_1, cmpX.eq_1, boX.eq_1, andX.eq_1, andX.eq_2, orX.eq_1, orX.eq_2, iteX.eq_1, iteX.eq_2, retX.eq_1, retX.eq_2, callX.eq_1, biX.eq_1, isiX.eq_1, idxX.eq_1, slX.eq_1, tupX.eq_1, lstX.eq_1, iterX.eq_1, lcX.eq_1, consX.eq_1, consX.eq_2, consB.eq_1, oX.eq_1, thn.eq_1, thn.eq_2, thn.eq_3, asgX.eq_1, asgX.eq_2, unpX.eq_1, unpX.eq_2, parX.eq_1, augX.eq_1, retvX.eq_1, rtX.eq_1, rtX.eq_2, iffX.eq_1, iffX.eq_2, putX.eq_1, ownX.eq_1, appX.eq_1, appX.eq_2, popX.eq_1, mapX.eq_1, frz, frzAt, aft, asI, asB, asT, asTL.eq_1, asTL.eq_2, asL, fl_t, fl_l, fl_d, fl_i, fl_b, fl_n, fl_tp, fa_nil, fa_cons, fa_tp, fa_int, ks_l, ks_lz, ks_t, ks_i, ks_b, ks_n, ks_d, ks_tp, aftR, sc_l, sc_t, sc_i, sc_b, sc_n, outV, ty_ii, ty_bi, ty_ll, ty_tt, ty_bb, ty_ib, ty_lt, ty_li, ty_ls, ty_ss, ty_sl, ty_st, bindT, setMany, setL, intAt, catL, cm_lt, cm_le, cm_gt, cm_ge, cm_eqi, cm_nei, op_add, op_sub, op_mul, op_fdiv, op_mod, ix_t0, ix_t1, ix_t2, scal_tp, pow_ok, len_l, len_t, len_s, xb_abs, xb_max2, xb_min2, xb_list, xb_listT, xb_intb, xb_inti, xb_min, xb_max, it_seq, it_seqT, it_seqS, it_enum, it_zip, it_rev, ix_f0, ix_f1, m1, m2, e]
theorem e_ref2 {Φ : Ph} (h : Impl Φ "_law_refused" f__law_refused) (ho : Impl Φ "_law_only" f__law_only) (hv : Impl Φ "!over" fR_over) (hf : Impl Φ "!fraction" fR_fraction) {n m : Nat} {x y : Rat} (hx : sz n x) (hy : sz m y) (k : n + m + 1 ≤ 8000) (y0 : (N y).1 = 0) : Φ "_law_refused" [tp (N x), tp (N y)] = some (.bool true, false) := by
  have m1 : mulOk (N x).1 (N y).2 = true := mulOk_bd hx.a hy.b (by omega)
  have m2 : mulOk (N x).2 0 = true := mulOk_r (bd_lit 0) (by decide)
  have e := e_exc hf ((N x).1 * (N y).2)
  have ev : Φ "!over" [tp (N x), tp (N y)] = some (excD "NoFraction", false) := by
    rw [hv, ev_f _ rfl]
    simp [fR_over, init, ev_var, ev_brw, ev_cst, ev_bin, ev_neg, ev_not, ev_cmp, ev_and, ev_or, ev_ite, ev_call, ev_bi, ev_isi, ev_idx, ev_sl, ev_tup, ev_lst, ev_lc, evs_nil, evs_cons, evb_nil, evb_cons, evo_nil, evo_cons, ex_nil, ex_pass, ex_brk, ex_cons, ex_asg, ex_unp, ex_par, ex_aug, ex_ret, ex_retv, ex_iff, ex_for, ex_forc, forcX.eq_1, ex_whl, ex_app, ex_seti, ev_dnew, ev_dnewI, setkX.eq_1, setiX.eq_1, setiX.eq_2, ex_try, ex_hnd, phX.eq_1, try_exc, try_l, try_t, tryO_nil, tryO_one, hnd_eq, hndE.eq_1, hndE.eq_2, ex_pop, ex_clr, ex_revl, varX.eq_1, varX.eq_2, brwX.eq_1, binX.eq_1, negX.eq_1, notX.eq_1, cmpX.eq_1, boX.eq_1, andX.eq_1, andX.eq_2, orX.eq_1, orX.eq_2, iteX.eq_1, iteX.eq_2, retX.eq_1, retX.eq_2, callX.eq_1, biX.eq_1, isiX.eq_1, idxX.eq_1, slX.eq_1, tupX.eq_1, lstX.eq_1, iterX.eq_1, lcX.eq_1, consX.eq_1, consX.eq_2, consB.eq_1, oX.eq_1, thn.eq_1, thn.eq_2, thn.eq_3, asgX.eq_1, asgX.eq_2, unpX.eq_1, unpX.eq_2, parX.eq_1, augX.eq_1, retvX.eq_1, rtX.eq_1, rtX.eq_2, iffX.eq_1, iffX.eq_2, putX.eq_1, ownX.eq_1, appX.eq_1, appX.eq_2, popX.eq_1, mapX.eq_1, frz, frzAt, aft, asI, asB, asT, asTL.eq_1, asTL.eq_2, asL, fl_t, fl_l, fl_d, fl_i, fl_b, fl_n, fl_tp, fa_nil, fa_cons, fa_tp, fa_int, ks_l, ks_lz, ks_t, ks_i, ks_b, ks_n, ks_d, ks_tp, aftR, sc_l, sc_t, sc_i, sc_b, sc_n, outV, ty_ii, ty_bi, ty_ll, ty_tt, ty_bb, ty_ib, ty_lt, ty_li, ty_ls, ty_ss, ty_sl, ty_st, bindT, setMany, setL, intAt, catL, cm_lt, cm_le, cm_gt, cm_ge, cm_eqi, cm_nei, op_add, op_sub, op_mul, op_fdiv, op_mod, ix_t0, ix_t1, ix_t2, scal_tp, pow_ok, len_l, len_t, len_s, xb_abs, xb_max2, xb_min2, xb_list, xb_listT, xb_intb, xb_inti, xb_min, xb_max, it_seq, it_seqT, it_seqS, it_enum, it_zip, it_rev, ix_f0, ix_f1, m1, m2, y0, e]
  have o := e_only ho 1
  have m : marks 1 = .list [.bool true, .bool true, .bool false, .bool false, .bool false, .bool false, .bool false, .bool false, .bool false, .bool false, .bool false] := by rfl
  have q : cm .eq (marks 1) (marks 1) = some true := (cm_self (by decide +kernel) (by decide +kernel)).1
  rw [m] at o q
  have o : Φ "_law_only" [.int 1] = _ := o
  rw [h, ev_f _ rfl]
  simp [f__law_refused, init, ev_var, ev_brw, ev_cst, ev_bin, ev_neg, ev_not, ev_cmp, ev_and, ev_or, ev_ite, ev_call, ev_bi, ev_isi, ev_idx, ev_sl, ev_tup, ev_lst, ev_lc, evs_nil, evs_cons, evb_nil, evb_cons, evo_nil, evo_cons, ex_nil, ex_pass, ex_brk, ex_cons, ex_asg, ex_unp, ex_par, ex_aug, ex_ret, ex_retv, ex_iff, ex_for, ex_forc, forcX.eq_1, ex_whl, ex_app, ex_seti, ev_dnew, ev_dnewI, setkX.eq_1, setiX.eq_1, setiX.eq_2, ex_try, ex_hnd, phX.eq_1, try_exc, try_l, try_t, tryO_nil, tryO_one, hnd_eq, hndE.eq_1, hndE.eq_2, ex_pop, ex_clr, ex_revl, varX.eq_1, varX.eq_2, brwX.eq_1, binX.eq_1, negX.eq_1, notX.eq_1, cmpX.eq_1, boX.eq_1, andX.eq_1, andX.eq_2, orX.eq_1, orX.eq_2, iteX.eq_1, iteX.eq_2, retX.eq_1, retX.eq_2, callX.eq_1, biX.eq_1, isiX.eq_1, idxX.eq_1, slX.eq_1, tupX.eq_1, lstX.eq_1, iterX.eq_1, lcX.eq_1, consX.eq_1, consX.eq_2, consB.eq_1, oX.eq_1, thn.eq_1, thn.eq_2, thn.eq_3, asgX.eq_1, asgX.eq_2, unpX.eq_1, unpX.eq_2, parX.eq_1, augX.eq_1, retvX.eq_1, rtX.eq_1, rtX.eq_2, iffX.eq_1, iffX.eq_2, putX.eq_1, ownX.eq_1, appX.eq_1, appX.eq_2, popX.eq_1, mapX.eq_1, frz, frzAt, aft, asI, asB, asT, asTL.eq_1, asTL.eq_2, asL, fl_t, fl_l, fl_d, fl_i, fl_b, fl_n, fl_tp, fa_nil, fa_cons, fa_tp, fa_int, ks_l, ks_lz, ks_t, ks_i, ks_b, ks_n, ks_d, ks_tp, aftR, sc_l, sc_t, sc_i, sc_b, sc_n, outV, ty_ii, ty_bi, ty_ll, ty_tt, ty_bb, ty_ib, ty_lt, ty_li, ty_ls, ty_ss, ty_sl, ty_st, bindT, setMany, setL, intAt, catL, cm_lt, cm_le, cm_gt, cm_ge, cm_eqi, cm_nei, op_add, op_sub, op_mul, op_fdiv, op_mod, ix_t0, ix_t1, ix_t2, scal_tp, pow_ok, len_l, len_t, len_s, xb_abs, xb_max2, xb_min2, xb_list, xb_listT, xb_intb, xb_inti, xb_min, xb_max, it_seq, it_seqT, it_seqS, it_enum, it_zip, it_rev, ev, o, q]
theorem e_is2 {Φ : Ph} (h : Impl Φ "_law_is" f__law_is) (hf : Impl Φ "_law_is_fraction" f__law_is_fraction) (hw : Impl Φ "_law_whole" f__law_whole) (hd : Impl Φ "_law_divisor" f__law_divisor) {n : Nat} {a b : Int} {x : Rat} (ha : bd n a) (hb : bd n b) (hn : n ≤ 8000) (h0 : b ≠ 0) (g : sz n x) (e : x = Rat.divInt a b) :
    Φ "_law_is" [tp (N x), .int a, .int b] = some (.bool true, false) := by
  subst e
  exact e_is h hf hw hd ha hb hn h0 g
theorem I {f : Str} {fn : Fn} (h : (f, fn) ∈ tab) : Impl (look tab) f fn := look_impl tab_ok h
theorem mul_pos2 (x y : Rat) : (N x).2 * (N y).2 ≠ 0 := fun z => by
  rcases Int.mul_eq_zero.mp z with z | z
  · exact N_ne x z
  · exact N_ne y z
theorem pair {Φ : Ph} (h : Impl Φ "_law_pair_holds" f__law_pair_holds) (i_is : Impl Φ "_law_is" f__law_is) (i_if : Impl Φ "_law_is_fraction" f__law_is_fraction) (i_wh : Impl Φ "_law_whole" f__law_whole) (i_dl : Impl Φ "_law_divisor" f__law_divisor)
    (pp : Bf Φ "plus" (· + ·)) (mm : Bf Φ "minus" (· - ·)) (tt : Bf Φ "times" (· * ·)) (i_ov : Impl Φ "over" f_over) (lf : Lo Φ "fraction") (i_re : Impl Φ "_law_refused" f__law_refused) (i_on : Impl Φ "_law_only" f__law_only) (i_ox : Impl Φ "!over" fR_over) (i_fx : Impl Φ "!fraction" fR_fraction) (i_le : Impl Φ "less" f_less)
    {x y : Rat} (hx : sz 400 x) (hy : sz 400 y) : Φ "_law_pair_holds" [tp (N x), tp (N y)] = some (.bool true, false) := by
  obtain ⟨e1, s1⟩ := pp x y _ _ hx hy (by decide)
  obtain ⟨e2, s2⟩ := mm x y _ _ hx hy (by decide)
  obtain ⟨e3, s3⟩ := tt x y _ _ hx hy (by decide)
  have b1 : bd 801 ((N x).1 * (N y).2 + (N y).1 * (N x).2) := bd_mono (bd_add (bd_mul hx.a hy.b) (bd_mul hy.a hx.b)) (by decide)
  have b2 : bd 801 ((N x).1 * (N y).2 - (N y).1 * (N x).2) := bd_mono (bd_sub (bd_mul hx.a hy.b) (bd_mul hy.a hx.b)) (by decide)
  have b3 : bd 801 ((N x).1 * (N y).1) := bd_mono (bd_mul hx.a hy.a) (by decide)
  have bb : bd 801 ((N x).2 * (N y).2) := bd_mono (bd_mul hx.b hy.b) (by decide)
  have b4 : bd 801 ((N x).1 * (N y).2) := bd_mono (bd_mul hx.a hy.b) (by decide)
  have b5 : bd 801 ((N x).2 * (N y).1) := bd_mono (bd_mul hx.b hy.a) (by decide)
  have i1 := e_is2 i_is i_if i_wh i_dl b1 bb (by decide) (mul_pos2 x y) s1 (add_N x y).symm
  have i2 := e_is2 i_is i_if i_wh i_dl b2 bb (by decide) (mul_pos2 x y) s2 (sub_N x y).symm
  have i3 := e_is2 i_is i_if i_wh i_dl b3 bb (by decide) (mul_pos2 x y) (sz_mono s3 (by decide)) (mul_N x y).symm
  dsimp only at e1 e2 e3 i1 i2 i3
  have m1 : mulOk (N x).1 (N y).2 = true := mulOk_bd hx.a hy.b (by decide)
  have m2 : mulOk (N y).1 (N x).2 = true := mulOk_bd hy.a hx.b (by decide)
  have m3 : mulOk (N x).2 (N y).2 = true := mulOk_bd hx.b hy.b (by decide)
  have m4 : mulOk (N x).1 (N y).1 = true := mulOk_bd hx.a hy.a (by decide)
  have m5 : mulOk (N x).2 (N y).1 = true := mulOk_bd hx.b hy.a (by decide)
  have el := e_less i_le hx hy (by decide)
  have ex := e_less i_le hx hx (by decide)
  have el2 := lt_N x y
  rw [decide_eq_false (Rat.lt_irrefl)] at ex
  have q := cm_eqb (decide (x < y)) (decide (x < y))
  rw [decide_eq_true rfl] at q
  rw [h, ev_f _ rfl]
  by_cases y0 : (N y).1 = 0
  · have r := e_ref2 i_re i_on i_ox i_fx hx hy (by decide) y0
    have y0' := eq_true y0
    simp [f__law_pair_holds, init, ev_var, ev_brw, ev_cst, ev_bin, ev_neg, ev_not, ev_cmp, ev_and, ev_or, ev_ite, ev_call, ev_bi, ev_isi, ev_idx, ev_sl, ev_tup, ev_lst, ev_lc, evs_nil, evs_cons, evb_nil, evb_cons, evo_nil, evo_cons, ex_nil, ex_pass, ex_brk, ex_cons, ex_asg, ex_unp, ex_par, ex_aug, ex_ret, ex_retv, ex_iff, ex_for, ex_forc, forcX.eq_1, ex_whl, ex_app, ex_seti, ev_dnew, ev_dnewI, setkX.eq_1, setiX.eq_1, setiX.eq_2, ex_try, ex_hnd, phX.eq_1, try_exc, try_l, try_t, tryO_nil, tryO_one, hnd_eq, hndE.eq_1, hndE.eq_2, ex_pop, ex_clr, ex_revl, varX.eq_1, varX.eq_2, brwX.eq_1, binX.eq_1, negX.eq_1, notX.eq_1, cmpX.eq_1, boX.eq_1, andX.eq_1, andX.eq_2, orX.eq_1, orX.eq_2, iteX.eq_1, iteX.eq_2, retX.eq_1, retX.eq_2, callX.eq_1, biX.eq_1, isiX.eq_1, idxX.eq_1, slX.eq_1, tupX.eq_1, lstX.eq_1, iterX.eq_1, lcX.eq_1, consX.eq_1, consX.eq_2, consB.eq_1, oX.eq_1, thn.eq_1, thn.eq_2, thn.eq_3, asgX.eq_1, asgX.eq_2, unpX.eq_1, unpX.eq_2, parX.eq_1, augX.eq_1, retvX.eq_1, rtX.eq_1, rtX.eq_2, iffX.eq_1, iffX.eq_2, putX.eq_1, ownX.eq_1, appX.eq_1, appX.eq_2, popX.eq_1, mapX.eq_1, frz, frzAt, aft, asI, asB, asT, asTL.eq_1, asTL.eq_2, asL, fl_t, fl_l, fl_d, fl_i, fl_b, fl_n, fl_tp, fa_nil, fa_cons, fa_tp, fa_int, ks_l, ks_lz, ks_t, ks_i, ks_b, ks_n, ks_d, ks_tp, aftR, sc_l, sc_t, sc_i, sc_b, sc_n, outV, ty_ii, ty_bi, ty_ll, ty_tt, ty_bb, ty_ib, ty_lt, ty_li, ty_ls, ty_ss, ty_sl, ty_st, bindT, setMany, setL, intAt, catL, cm_lt, cm_le, cm_gt, cm_ge, cm_eqi, cm_nei, op_add, op_sub, op_mul, op_fdiv, op_mod, ix_t0, ix_t1, ix_t2, scal_tp, pow_ok, len_l, len_t, len_s, xb_abs, xb_max2, xb_min2, xb_list, xb_listT, xb_intb, xb_inti, xb_min, xb_max, it_seq, it_seqT, it_seqS, it_enum, it_zip, it_rev, ix_f0, ix_f1, e1, e2, e3, m1, m2, m3, m4, m5, y0', i1, i2, i3, r, el, ex, isb, cm_eqb, lt_N]
  · obtain ⟨e4, s4⟩ := e_over i_ov lf hx hy (by decide) y0
    have i4 := e_is i_is i_if i_wh i_dl b4 b5 (by decide) (fun z => by
      rcases Int.mul_eq_zero.mp z with z | z
      · exact N_ne x z
      · exact y0 z) (sz_mono s4 (by decide))
    simp [f__law_pair_holds, init, ev_var, ev_brw, ev_cst, ev_bin, ev_neg, ev_not, ev_cmp, ev_and, ev_or, ev_ite, ev_call, ev_bi, ev_isi, ev_idx, ev_sl, ev_tup, ev_lst, ev_lc, evs_nil, evs_cons, evb_nil, evb_cons, evo_nil, evo_cons, ex_nil, ex_pass, ex_brk, ex_cons, ex_asg, ex_unp, ex_par, ex_aug, ex_ret, ex_retv, ex_iff, ex_for, ex_forc, forcX.eq_1, ex_whl, ex_app, ex_seti, ev_dnew, ev_dnewI, setkX.eq_1, setiX.eq_1, setiX.eq_2, ex_try, ex_hnd, phX.eq_1, try_exc, try_l, try_t, tryO_nil, tryO_one, hnd_eq, hndE.eq_1, hndE.eq_2, ex_pop, ex_clr, ex_revl, varX.eq_1, varX.eq_2, brwX.eq_1, binX.eq_1, negX.eq_1, notX.eq_1, cmpX.eq_1, boX.eq_1, andX.eq_1, andX.eq_2, orX.eq_1, orX.eq_2, iteX.eq_1, iteX.eq_2, retX.eq_1, retX.eq_2, callX.eq_1, biX.eq_1, isiX.eq_1, idxX.eq_1, slX.eq_1, tupX.eq_1, lstX.eq_1, iterX.eq_1, lcX.eq_1, consX.eq_1, consX.eq_2, consB.eq_1, oX.eq_1, thn.eq_1, thn.eq_2, thn.eq_3, asgX.eq_1, asgX.eq_2, unpX.eq_1, unpX.eq_2, parX.eq_1, augX.eq_1, retvX.eq_1, rtX.eq_1, rtX.eq_2, iffX.eq_1, iffX.eq_2, putX.eq_1, ownX.eq_1, appX.eq_1, appX.eq_2, popX.eq_1, mapX.eq_1, frz, frzAt, aft, asI, asB, asT, asTL.eq_1, asTL.eq_2, asL, fl_t, fl_l, fl_d, fl_i, fl_b, fl_n, fl_tp, fa_nil, fa_cons, fa_tp, fa_int, ks_l, ks_lz, ks_t, ks_i, ks_b, ks_n, ks_d, ks_tp, aftR, sc_l, sc_t, sc_i, sc_b, sc_n, outV, ty_ii, ty_bi, ty_ll, ty_tt, ty_bb, ty_ib, ty_lt, ty_li, ty_ls, ty_ss, ty_sl, ty_st, bindT, setMany, setL, intAt, catL, cm_lt, cm_le, cm_gt, cm_ge, cm_eqi, cm_nei, op_add, op_sub, op_mul, op_fdiv, op_mod, ix_t0, ix_t1, ix_t2, scal_tp, pow_ok, len_l, len_t, len_s, xb_abs, xb_max2, xb_min2, xb_list, xb_listT, xb_intb, xb_inti, xb_min, xb_max, it_seq, it_seqT, it_seqS, it_enum, it_zip, it_rev, ix_f0, ix_f1, e1, e2, e3, e4, m1, m2, m3, m4, m5, y0, i1, i2, i3, i4, el, ex, isb, cm_eqb, lt_N]
theorem N01 : tp (0, 1) = tp (N 0) := rfl
theorem law (ns : List Int) (hn : ns.length ≤ 63) : ∃ o, look tab "law" [scr (ns.map .int)] = some (.bool true, o) := by
  have i_cell := I (f := "_law_cell_at") (fn := f__law_cell_at) (by simp [tab])
  have i_dl := I (f := "_law_divisor") (fn := f__law_divisor) (by simp [tab])
  have i_lf := I (f := "_law_fraction") (fn := f__law_fraction) (by simp [tab])
  have i_dr := I (f := "_law_drawn") (fn := f__law_drawn) (by simp [tab])
  have i_le := I (f := "less") (fn := f_less) (by simp [tab])
  have i_wh := I (f := "_law_whole") (fn := f__law_whole) (by simp [tab])
  have i_if := I (f := "_law_is_fraction") (fn := f__law_is_fraction) (by simp [tab])
  have i_is := I (f := "_law_is") (fn := f__law_is) (by simp [tab])
  have i_dv := I (f := "divisor") (fn := f_divisor) (by simp [tab])
  have i_fr := I (f := "fraction") (fn := f_fraction) (by simp [tab])
  have i_pl := I (f := "plus") (fn := f_plus) (by simp [tab])
  have i_mi := I (f := "minus") (fn := f_minus) (by simp [tab])
  have i_ti := I (f := "times") (fn := f_times) (by simp [tab])
  have i_fx := I (f := "!fraction") (fn := fR_fraction) (by simp [tab])
  have i_ox := I (f := "!over") (fn := fR_over) (by simp [tab])
  have i_on := I (f := "_law_only") (fn := f__law_only) (by simp [tab])
  have i_re := I (f := "_law_refused") (fn := f__law_refused) (by simp [tab])
  have i_ov := I (f := "over") (fn := f_over) (by simp [tab])
  have i_ph := I (f := "_law_pair_holds") (fn := f__law_pair_holds) (by simp [tab])
  have i_law := I (f := "law") (fn := f_law) (by simp [tab])
  generalize look tab = Φ at *
  have lf := lo_fraction i_fr i_dv
  have pp := bf_plus i_pl lf
  have mm := bf_minus i_mi lf
  have tt := bf_times i_ti lf
  have ph : ∀ {x y : Rat}, sz 400 x → sz 400 y → Φ "_law_pair_holds" [tp (N x), tp (N y)] = some (.bool true, false) := fun {x y} hx hy => pair i_ph i_is i_if i_wh i_dl pp mm tt i_ov lf i_re i_on i_ox i_fx i_le hx hy
  obtain ⟨c0, e0, _, _⟩ := e_cell i_cell ns 0 (by decide)
  obtain ⟨c1, e1, _, _⟩ := e_cell i_cell ns 1 (by decide)
  obtain ⟨c2, e2, _, _⟩ := e_cell i_cell ns 2 (by decide)
  obtain ⟨c3, e3, _, _⟩ := e_cell i_cell ns 3 (by decide)
  obtain ⟨c4, e4, _, _⟩ := e_cell i_cell ns 4 (by decide)
  have e0 : Φ "_law_cell_at" [scr (ns.map .int), .int 0] = some (.int c0, false) := e0
  have e1 : Φ "_law_cell_at" [scr (ns.map .int), .int 1] = some (.int c1, false) := e1
  have e2 : Φ "_law_cell_at" [scr (ns.map .int), .int 2] = some (.int c2, false) := e2
  have e3 : Φ "_law_cell_at" [scr (ns.map .int), .int 3] = some (.int c3, false) := e3
  have e4 : Φ "_law_cell_at" [scr (ns.map .int), .int 4] = some (.int c4, false) := e4
  obtain ⟨x, ex, sx⟩ := e_drawn i_dr i_lf i_dl c0 c1 c4
  obtain ⟨y, ey, sy⟩ := e_drawn i_dr i_lf i_dl c2 c3 (c4.fdiv 2)
  have d2 : divOk 2 = true := by decide
  have d4 : divOk 4 = true := by decide
  have d16 : divOk 16 = true := by decide
  have p20 : powOk 10 20 = true := by decide
  have sx' := sz_mono sx (show 110 ≤ 400 by decide)
  have sy' := sz_mono sy (show 110 ≤ 400 by decide)
  have s0 : sz 400 (0 : Rat) := sz_int (i := 0) (bd_of (by decide)) (by decide)
  have r2 : iterO .range [.int 2] = some [.int 0, .int 1] := by rfl
  have p01 : (.tuple [.int 0, .int 1] : D) = tp (N 0) := rfl
  refine ⟨false, ?_⟩
  have main : ∀ (z : Rat) (w : Int) (x5 x6 : Slot), sz 400 z → (exec Φ (.cons (.for_ (.nm 5) .range [] (.cons (.cst (.int 2)) .nil) (.cons (.iff [] (.or (.not (.call "_law_pair_holds" (.cons (.var 2) (.cons (.var 3) .nil)))) (.not (.call "_law_pair_holds" (.cons (.var 3) (.cons (.var 2) .nil))))) (.cons (.ret [] (.cst (.bool false))) .nil) .nil) .nil)) (.cons (.ret [] (.cst (.bool true))) .nil))
      [some (scr (ns.map .int), false), some (.int c4, false), some (tp (N x), false), some (tp (N z), false), some (.int w, false), x5, x6]).bind outV = some (.bool true, false) := fun z w x5 x6 hz => by
    have q1 := ph sx' hz
    have q2 := ph hz sx'
    simp [init, ev_var, ev_brw, ev_cst, ev_bin, ev_neg, ev_not, ev_cmp, ev_and, ev_or, ev_ite, ev_call, ev_bi, ev_isi, ev_idx, ev_sl, ev_tup, ev_lst, ev_lc, evs_nil, evs_cons, evb_nil, evb_cons, evo_nil, evo_cons, ex_nil, ex_pass, ex_brk, ex_cons, ex_asg, ex_unp, ex_par, ex_aug, ex_ret, ex_retv, ex_iff, ex_for, ex_forc, forcX.eq_1, ex_whl, ex_app, ex_seti, ev_dnew, ev_dnewI, setkX.eq_1, setiX.eq_1, setiX.eq_2, ex_try, ex_hnd, phX.eq_1, try_exc, try_l, try_t, tryO_nil, tryO_one, hnd_eq, hndE.eq_1, hndE.eq_2, ex_pop, ex_clr, ex_revl, varX.eq_1, varX.eq_2, brwX.eq_1, binX.eq_1, negX.eq_1, notX.eq_1, cmpX.eq_1, boX.eq_1, andX.eq_1, andX.eq_2, orX.eq_1, orX.eq_2, iteX.eq_1, iteX.eq_2, retX.eq_1, retX.eq_2, callX.eq_1, biX.eq_1, isiX.eq_1, idxX.eq_1, slX.eq_1, tupX.eq_1, lstX.eq_1, iterX.eq_1, lcX.eq_1, consX.eq_1, consX.eq_2, consB.eq_1, oX.eq_1, thn.eq_1, thn.eq_2, thn.eq_3, asgX.eq_1, asgX.eq_2, unpX.eq_1, unpX.eq_2, parX.eq_1, augX.eq_1, retvX.eq_1, rtX.eq_1, rtX.eq_2, iffX.eq_1, iffX.eq_2, putX.eq_1, ownX.eq_1, appX.eq_1, appX.eq_2, popX.eq_1, mapX.eq_1, frz, frzAt, aft, asI, asB, asT, asTL.eq_1, asTL.eq_2, asL, fl_t, fl_l, fl_d, fl_i, fl_b, fl_n, fl_tp, fa_nil, fa_cons, fa_tp, fa_int, ks_l, ks_lz, ks_t, ks_i, ks_b, ks_n, ks_d, ks_tp, aftR, sc_l, sc_t, sc_i, sc_b, sc_n, outV, ty_ii, ty_bi, ty_ll, ty_tt, ty_bb, ty_ib, ty_lt, ty_li, ty_ls, ty_ss, ty_sl, ty_st, bindT, setMany, setL, intAt, catL, cm_lt, cm_le, cm_gt, cm_ge, cm_eqi, cm_nei, op_add, op_sub, op_mul, op_fdiv, op_mod, ix_t0, ix_t1, ix_t2, scal_tp, pow_ok, len_l, len_t, len_s, xb_abs, xb_max2, xb_min2, xb_list, xb_listT, xb_intb, xb_inti, xb_min, xb_max, it_seq, it_seqT, it_seqS, it_enum, it_zip, it_rev, r2, fu_nil, fu_cons, forR.eq_1, forR.eq_2, forR.eq_3, forK.eq_1, q1, q2]
  rw [i_law, ev_f _ rfl]
  by_cases w1 : (c4.fdiv 4).fmod 4 = 1
  · have := main 0 1 none none s0
    simp [init, ev_var, ev_brw, ev_cst, ev_bin, ev_neg, ev_not, ev_cmp, ev_and, ev_or, ev_ite, ev_call, ev_bi, ev_isi, ev_idx, ev_sl, ev_tup, ev_lst, ev_lc, evs_nil, evs_cons, evb_nil, evb_cons, evo_nil, evo_cons, ex_nil, ex_pass, ex_brk, ex_cons, ex_asg, ex_unp, ex_par, ex_aug, ex_ret, ex_retv, ex_iff, ex_for, ex_forc, forcX.eq_1, ex_whl, ex_app, ex_seti, ev_dnew, ev_dnewI, setkX.eq_1, setiX.eq_1, setiX.eq_2, ex_try, ex_hnd, phX.eq_1, try_exc, try_l, try_t, tryO_nil, tryO_one, hnd_eq, hndE.eq_1, hndE.eq_2, ex_pop, ex_clr, ex_revl, varX.eq_1, varX.eq_2, brwX.eq_1, binX.eq_1, negX.eq_1, notX.eq_1, cmpX.eq_1, boX.eq_1, andX.eq_1, andX.eq_2, orX.eq_1, orX.eq_2, iteX.eq_1, iteX.eq_2, retX.eq_1, retX.eq_2, callX.eq_1, biX.eq_1, isiX.eq_1, idxX.eq_1, slX.eq_1, tupX.eq_1, lstX.eq_1, iterX.eq_1, lcX.eq_1, consX.eq_1, consX.eq_2, consB.eq_1, oX.eq_1, thn.eq_1, thn.eq_2, thn.eq_3, asgX.eq_1, asgX.eq_2, unpX.eq_1, unpX.eq_2, parX.eq_1, augX.eq_1, retvX.eq_1, rtX.eq_1, rtX.eq_2, iffX.eq_1, iffX.eq_2, putX.eq_1, ownX.eq_1, appX.eq_1, appX.eq_2, popX.eq_1, mapX.eq_1, frz, frzAt, aft, asI, asB, asT, asTL.eq_1, asTL.eq_2, asL, fl_t, fl_l, fl_d, fl_i, fl_b, fl_n, fl_tp, fa_nil, fa_cons, fa_tp, fa_int, ks_l, ks_lz, ks_t, ks_i, ks_b, ks_n, ks_d, ks_tp, aftR, sc_l, sc_t, sc_i, sc_b, sc_n, outV, ty_ii, ty_bi, ty_ll, ty_tt, ty_bb, ty_ib, ty_lt, ty_li, ty_ls, ty_ss, ty_sl, ty_st, bindT, setMany, setL, intAt, catL, cm_lt, cm_le, cm_gt, cm_ge, cm_eqi, cm_nei, op_add, op_sub, op_mul, op_fdiv, op_mod, ix_t0, ix_t1, ix_t2, scal_tp, pow_ok, len_l, len_t, len_s, xb_abs, xb_max2, xb_min2, xb_list, xb_listT, xb_intb, xb_inti, xb_min, xb_max, it_seq, it_seqT, it_seqS, it_enum, it_zip, it_rev] at this
    simp [f_law, init, ev_var, ev_brw, ev_cst, ev_bin, ev_neg, ev_not, ev_cmp, ev_and, ev_or, ev_ite, ev_call, ev_bi, ev_isi, ev_idx, ev_sl, ev_tup, ev_lst, ev_lc, evs_nil, evs_cons, evb_nil, evb_cons, evo_nil, evo_cons, ex_nil, ex_pass, ex_brk, ex_cons, ex_asg, ex_unp, ex_par, ex_aug, ex_ret, ex_retv, ex_iff, ex_for, ex_forc, forcX.eq_1, ex_whl, ex_app, ex_seti, ev_dnew, ev_dnewI, setkX.eq_1, setiX.eq_1, setiX.eq_2, ex_try, ex_hnd, phX.eq_1, try_exc, try_l, try_t, tryO_nil, tryO_one, hnd_eq, hndE.eq_1, hndE.eq_2, ex_pop, ex_clr, ex_revl, varX.eq_1, varX.eq_2, brwX.eq_1, binX.eq_1, negX.eq_1, notX.eq_1, cmpX.eq_1, boX.eq_1, andX.eq_1, andX.eq_2, orX.eq_1, orX.eq_2, iteX.eq_1, iteX.eq_2, retX.eq_1, retX.eq_2, callX.eq_1, biX.eq_1, isiX.eq_1, idxX.eq_1, slX.eq_1, tupX.eq_1, lstX.eq_1, iterX.eq_1, lcX.eq_1, consX.eq_1, consX.eq_2, consB.eq_1, oX.eq_1, thn.eq_1, thn.eq_2, thn.eq_3, asgX.eq_1, asgX.eq_2, unpX.eq_1, unpX.eq_2, parX.eq_1, augX.eq_1, retvX.eq_1, rtX.eq_1, rtX.eq_2, iffX.eq_1, iffX.eq_2, putX.eq_1, ownX.eq_1, appX.eq_1, appX.eq_2, popX.eq_1, mapX.eq_1, frz, frzAt, aft, asI, asB, asT, asTL.eq_1, asTL.eq_2, asL, fl_t, fl_l, fl_d, fl_i, fl_b, fl_n, fl_tp, fa_nil, fa_cons, fa_tp, fa_int, ks_l, ks_lz, ks_t, ks_i, ks_b, ks_n, ks_d, ks_tp, aftR, sc_l, sc_t, sc_i, sc_b, sc_n, outV, ty_ii, ty_bi, ty_ll, ty_tt, ty_bb, ty_ib, ty_lt, ty_li, ty_ls, ty_ss, ty_sl, ty_st, bindT, setMany, setL, intAt, catL, cm_lt, cm_le, cm_gt, cm_ge, cm_eqi, cm_nei, op_add, op_sub, op_mul, op_fdiv, op_mod, ix_t0, ix_t1, ix_t2, scal_tp, pow_ok, len_l, len_t, len_s, xb_abs, xb_max2, xb_min2, xb_list, xb_listT, xb_intb, xb_inti, xb_min, xb_max, it_seq, it_seqT, it_seqS, it_enum, it_zip, it_rev, e0, e1, e2, e3, e4, ex, ey, d2, d4, d16, p20, w1]
    exact this
  · by_cases w2 : (c4.fdiv 4).fmod 4 = 2
    · have := main x 2 none none sx'
      simp [init, ev_var, ev_brw, ev_cst, ev_bin, ev_neg, ev_not, ev_cmp, ev_and, ev_or, ev_ite, ev_call, ev_bi, ev_isi, ev_idx, ev_sl, ev_tup, ev_lst, ev_lc, evs_nil, evs_cons, evb_nil, evb_cons, evo_nil, evo_cons, ex_nil, ex_pass, ex_brk, ex_cons, ex_asg, ex_unp, ex_par, ex_aug, ex_ret, ex_retv, ex_iff, ex_for, ex_forc, forcX.eq_1, ex_whl, ex_app, ex_seti, ev_dnew, ev_dnewI, setkX.eq_1, setiX.eq_1, setiX.eq_2, ex_try, ex_hnd, phX.eq_1, try_exc, try_l, try_t, tryO_nil, tryO_one, hnd_eq, hndE.eq_1, hndE.eq_2, ex_pop, ex_clr, ex_revl, varX.eq_1, varX.eq_2, brwX.eq_1, binX.eq_1, negX.eq_1, notX.eq_1, cmpX.eq_1, boX.eq_1, andX.eq_1, andX.eq_2, orX.eq_1, orX.eq_2, iteX.eq_1, iteX.eq_2, retX.eq_1, retX.eq_2, callX.eq_1, biX.eq_1, isiX.eq_1, idxX.eq_1, slX.eq_1, tupX.eq_1, lstX.eq_1, iterX.eq_1, lcX.eq_1, consX.eq_1, consX.eq_2, consB.eq_1, oX.eq_1, thn.eq_1, thn.eq_2, thn.eq_3, asgX.eq_1, asgX.eq_2, unpX.eq_1, unpX.eq_2, parX.eq_1, augX.eq_1, retvX.eq_1, rtX.eq_1, rtX.eq_2, iffX.eq_1, iffX.eq_2, putX.eq_1, ownX.eq_1, appX.eq_1, appX.eq_2, popX.eq_1, mapX.eq_1, frz, frzAt, aft, asI, asB, asT, asTL.eq_1, asTL.eq_2, asL, fl_t, fl_l, fl_d, fl_i, fl_b, fl_n, fl_tp, fa_nil, fa_cons, fa_tp, fa_int, ks_l, ks_lz, ks_t, ks_i, ks_b, ks_n, ks_d, ks_tp, aftR, sc_l, sc_t, sc_i, sc_b, sc_n, outV, ty_ii, ty_bi, ty_ll, ty_tt, ty_bb, ty_ib, ty_lt, ty_li, ty_ls, ty_ss, ty_sl, ty_st, bindT, setMany, setL, intAt, catL, cm_lt, cm_le, cm_gt, cm_ge, cm_eqi, cm_nei, op_add, op_sub, op_mul, op_fdiv, op_mod, ix_t0, ix_t1, ix_t2, scal_tp, pow_ok, len_l, len_t, len_s, xb_abs, xb_max2, xb_min2, xb_list, xb_listT, xb_intb, xb_inti, xb_min, xb_max, it_seq, it_seqT, it_seqS, it_enum, it_zip, it_rev] at this
      simp [f_law, init, ev_var, ev_brw, ev_cst, ev_bin, ev_neg, ev_not, ev_cmp, ev_and, ev_or, ev_ite, ev_call, ev_bi, ev_isi, ev_idx, ev_sl, ev_tup, ev_lst, ev_lc, evs_nil, evs_cons, evb_nil, evb_cons, evo_nil, evo_cons, ex_nil, ex_pass, ex_brk, ex_cons, ex_asg, ex_unp, ex_par, ex_aug, ex_ret, ex_retv, ex_iff, ex_for, ex_forc, forcX.eq_1, ex_whl, ex_app, ex_seti, ev_dnew, ev_dnewI, setkX.eq_1, setiX.eq_1, setiX.eq_2, ex_try, ex_hnd, phX.eq_1, try_exc, try_l, try_t, tryO_nil, tryO_one, hnd_eq, hndE.eq_1, hndE.eq_2, ex_pop, ex_clr, ex_revl, varX.eq_1, varX.eq_2, brwX.eq_1, binX.eq_1, negX.eq_1, notX.eq_1, cmpX.eq_1, boX.eq_1, andX.eq_1, andX.eq_2, orX.eq_1, orX.eq_2, iteX.eq_1, iteX.eq_2, retX.eq_1, retX.eq_2, callX.eq_1, biX.eq_1, isiX.eq_1, idxX.eq_1, slX.eq_1, tupX.eq_1, lstX.eq_1, iterX.eq_1, lcX.eq_1, consX.eq_1, consX.eq_2, consB.eq_1, oX.eq_1, thn.eq_1, thn.eq_2, thn.eq_3, asgX.eq_1, asgX.eq_2, unpX.eq_1, unpX.eq_2, parX.eq_1, augX.eq_1, retvX.eq_1, rtX.eq_1, rtX.eq_2, iffX.eq_1, iffX.eq_2, putX.eq_1, ownX.eq_1, appX.eq_1, appX.eq_2, popX.eq_1, mapX.eq_1, frz, frzAt, aft, asI, asB, asT, asTL.eq_1, asTL.eq_2, asL, fl_t, fl_l, fl_d, fl_i, fl_b, fl_n, fl_tp, fa_nil, fa_cons, fa_tp, fa_int, ks_l, ks_lz, ks_t, ks_i, ks_b, ks_n, ks_d, ks_tp, aftR, sc_l, sc_t, sc_i, sc_b, sc_n, outV, ty_ii, ty_bi, ty_ll, ty_tt, ty_bb, ty_ib, ty_lt, ty_li, ty_ls, ty_ss, ty_sl, ty_st, bindT, setMany, setL, intAt, catL, cm_lt, cm_le, cm_gt, cm_ge, cm_eqi, cm_nei, op_add, op_sub, op_mul, op_fdiv, op_mod, ix_t0, ix_t1, ix_t2, scal_tp, pow_ok, len_l, len_t, len_s, xb_abs, xb_max2, xb_min2, xb_list, xb_listT, xb_intb, xb_inti, xb_min, xb_max, it_seq, it_seqT, it_seqS, it_enum, it_zip, it_rev, e0, e1, e2, e3, e4, ex, ey, d2, d4, d16, p20, w2]
      exact this
    · by_cases w3 : (c4.fdiv 4).fmod 4 = 3
      · have f0 := Int.fmod_nonneg_of_pos c3 (show (0 : Int) < 100000000000000000000 by decide)
        have bf : bd 69 (1 + c3.fmod 100000000000000000000) := bd_mono (bd_add (bd_lit 1) (bd_fmod (bd_lit _) (by decide))) (by decide +kernel)
        have pf : 0 < 1 + c3.fmod 100000000000000000000 := by omega
        generalize hfar : 1 + c3.fmod 100000000000000000000 = far at *
        have ma : mulOk (N x).1 far = true := mulOk_bd sx.a bf (by decide)
        have mb : mulOk (N x).2 far = true := mulOk_bd sx.b bf (by decide)
        have mc : mulOk 2 ((c4.fdiv 16).fmod 2) = true := mulOk_l (bd_lit _) (by decide +kernel)
        have bc : bd 5 (2 * (c4.fdiv 16).fmod 2) := bd_mono (bd_mul (bd_lit 2) (bd_fmod (bd_lit 2) (by decide))) (by decide +kernel)
        obtain ⟨eq, sq⟩ := e_lfr i_lf i_dl (n := 400) (a := (N x).1 * far + 1 - 2 * (c4.fdiv 16).fmod 2) (b := (N x).2 * far) (bd_mono (bd_sub (bd_add (bd_mul sx.a bf) (bd_lit 1)) bc) (by decide +kernel)) (bd_mono (bd_mul sx.b bf) (by decide)) (by decide) (Int.mul_pos sx.pos pf)
        have := main _ 3 none (some (.int far, false)) sq
        simp [init, ev_var, ev_brw, ev_cst, ev_bin, ev_neg, ev_not, ev_cmp, ev_and, ev_or, ev_ite, ev_call, ev_bi, ev_isi, ev_idx, ev_sl, ev_tup, ev_lst, ev_lc, evs_nil, evs_cons, evb_nil, evb_cons, evo_nil, evo_cons, ex_nil, ex_pass, ex_brk, ex_cons, ex_asg, ex_unp, ex_par, ex_aug, ex_ret, ex_retv, ex_iff, ex_for, ex_forc, forcX.eq_1, ex_whl, ex_app, ex_seti, ev_dnew, ev_dnewI, setkX.eq_1, setiX.eq_1, setiX.eq_2, ex_try, ex_hnd, phX.eq_1, try_exc, try_l, try_t, tryO_nil, tryO_one, hnd_eq, hndE.eq_1, hndE.eq_2, ex_pop, ex_clr, ex_revl, varX.eq_1, varX.eq_2, brwX.eq_1, binX.eq_1, negX.eq_1, notX.eq_1, cmpX.eq_1, boX.eq_1, andX.eq_1, andX.eq_2, orX.eq_1, orX.eq_2, iteX.eq_1, iteX.eq_2, retX.eq_1, retX.eq_2, callX.eq_1, biX.eq_1, isiX.eq_1, idxX.eq_1, slX.eq_1, tupX.eq_1, lstX.eq_1, iterX.eq_1, lcX.eq_1, consX.eq_1, consX.eq_2, consB.eq_1, oX.eq_1, thn.eq_1, thn.eq_2, thn.eq_3, asgX.eq_1, asgX.eq_2, unpX.eq_1, unpX.eq_2, parX.eq_1, augX.eq_1, retvX.eq_1, rtX.eq_1, rtX.eq_2, iffX.eq_1, iffX.eq_2, putX.eq_1, ownX.eq_1, appX.eq_1, appX.eq_2, popX.eq_1, mapX.eq_1, frz, frzAt, aft, asI, asB, asT, asTL.eq_1, asTL.eq_2, asL, fl_t, fl_l, fl_d, fl_i, fl_b, fl_n, fl_tp, fa_nil, fa_cons, fa_tp, fa_int, ks_l, ks_lz, ks_t, ks_i, ks_b, ks_n, ks_d, ks_tp, aftR, sc_l, sc_t, sc_i, sc_b, sc_n, outV, ty_ii, ty_bi, ty_ll, ty_tt, ty_bb, ty_ib, ty_lt, ty_li, ty_ls, ty_ss, ty_sl, ty_st, bindT, setMany, setL, intAt, catL, cm_lt, cm_le, cm_gt, cm_ge, cm_eqi, cm_nei, op_add, op_sub, op_mul, op_fdiv, op_mod, ix_t0, ix_t1, ix_t2, scal_tp, pow_ok, len_l, len_t, len_s, xb_abs, xb_max2, xb_min2, xb_list, xb_listT, xb_intb, xb_inti, xb_min, xb_max, it_seq, it_seqT, it_seqS, it_enum, it_zip, it_rev] at this
        simp [f_law, init, ev_var, ev_brw, ev_cst, ev_bin, ev_neg, ev_not, ev_cmp, ev_and, ev_or, ev_ite, ev_call, ev_bi, ev_isi, ev_idx, ev_sl, ev_tup, ev_lst, ev_lc, evs_nil, evs_cons, evb_nil, evb_cons, evo_nil, evo_cons, ex_nil, ex_pass, ex_brk, ex_cons, ex_asg, ex_unp, ex_par, ex_aug, ex_ret, ex_retv, ex_iff, ex_for, ex_forc, forcX.eq_1, ex_whl, ex_app, ex_seti, ev_dnew, ev_dnewI, setkX.eq_1, setiX.eq_1, setiX.eq_2, ex_try, ex_hnd, phX.eq_1, try_exc, try_l, try_t, tryO_nil, tryO_one, hnd_eq, hndE.eq_1, hndE.eq_2, ex_pop, ex_clr, ex_revl, varX.eq_1, varX.eq_2, brwX.eq_1, binX.eq_1, negX.eq_1, notX.eq_1, cmpX.eq_1, boX.eq_1, andX.eq_1, andX.eq_2, orX.eq_1, orX.eq_2, iteX.eq_1, iteX.eq_2, retX.eq_1, retX.eq_2, callX.eq_1, biX.eq_1, isiX.eq_1, idxX.eq_1, slX.eq_1, tupX.eq_1, lstX.eq_1, iterX.eq_1, lcX.eq_1, consX.eq_1, consX.eq_2, consB.eq_1, oX.eq_1, thn.eq_1, thn.eq_2, thn.eq_3, asgX.eq_1, asgX.eq_2, unpX.eq_1, unpX.eq_2, parX.eq_1, augX.eq_1, retvX.eq_1, rtX.eq_1, rtX.eq_2, iffX.eq_1, iffX.eq_2, putX.eq_1, ownX.eq_1, appX.eq_1, appX.eq_2, popX.eq_1, mapX.eq_1, frz, frzAt, aft, asI, asB, asT, asTL.eq_1, asTL.eq_2, asL, fl_t, fl_l, fl_d, fl_i, fl_b, fl_n, fl_tp, fa_nil, fa_cons, fa_tp, fa_int, ks_l, ks_lz, ks_t, ks_i, ks_b, ks_n, ks_d, ks_tp, aftR, sc_l, sc_t, sc_i, sc_b, sc_n, outV, ty_ii, ty_bi, ty_ll, ty_tt, ty_bb, ty_ib, ty_lt, ty_li, ty_ls, ty_ss, ty_sl, ty_st, bindT, setMany, setL, intAt, catL, cm_lt, cm_le, cm_gt, cm_ge, cm_eqi, cm_nei, op_add, op_sub, op_mul, op_fdiv, op_mod, ix_t0, ix_t1, ix_t2, scal_tp, pow_ok, len_l, len_t, len_s, xb_abs, xb_max2, xb_min2, xb_list, xb_listT, xb_intb, xb_inti, xb_min, xb_max, it_seq, it_seqT, it_seqS, it_enum, it_zip, it_rev, e0, e1, e2, e3, e4, ex, ey, d2, d4, d16, p20, w3, hfar, ix_f0, ix_f1, ma, mb, mc, eq]
        exact this
      · have := main y ((c4.fdiv 4).fmod 4) none none sy'
        simp [init, ev_var, ev_brw, ev_cst, ev_bin, ev_neg, ev_not, ev_cmp, ev_and, ev_or, ev_ite, ev_call, ev_bi, ev_isi, ev_idx, ev_sl, ev_tup, ev_lst, ev_lc, evs_nil, evs_cons, evb_nil, evb_cons, evo_nil, evo_cons, ex_nil, ex_pass, ex_brk, ex_cons, ex_asg, ex_unp, ex_par, ex_aug, ex_ret, ex_retv, ex_iff, ex_for, ex_forc, forcX.eq_1, ex_whl, ex_app, ex_seti, ev_dnew, ev_dnewI, setkX.eq_1, setiX.eq_1, setiX.eq_2, ex_try, ex_hnd, phX.eq_1, try_exc, try_l, try_t, tryO_nil, tryO_one, hnd_eq, hndE.eq_1, hndE.eq_2, ex_pop, ex_clr, ex_revl, varX.eq_1, varX.eq_2, brwX.eq_1, binX.eq_1, negX.eq_1, notX.eq_1, cmpX.eq_1, boX.eq_1, andX.eq_1, andX.eq_2, orX.eq_1, orX.eq_2, iteX.eq_1, iteX.eq_2, retX.eq_1, retX.eq_2, callX.eq_1, biX.eq_1, isiX.eq_1, idxX.eq_1, slX.eq_1, tupX.eq_1, lstX.eq_1, iterX.eq_1, lcX.eq_1, consX.eq_1, consX.eq_2, consB.eq_1, oX.eq_1, thn.eq_1, thn.eq_2, thn.eq_3, asgX.eq_1, asgX.eq_2, unpX.eq_1, unpX.eq_2, parX.eq_1, augX.eq_1, retvX.eq_1, rtX.eq_1, rtX.eq_2, iffX.eq_1, iffX.eq_2, putX.eq_1, ownX.eq_1, appX.eq_1, appX.eq_2, popX.eq_1, mapX.eq_1, frz, frzAt, aft, asI, asB, asT, asTL.eq_1, asTL.eq_2, asL, fl_t, fl_l, fl_d, fl_i, fl_b, fl_n, fl_tp, fa_nil, fa_cons, fa_tp, fa_int, ks_l, ks_lz, ks_t, ks_i, ks_b, ks_n, ks_d, ks_tp, aftR, sc_l, sc_t, sc_i, sc_b, sc_n, outV, ty_ii, ty_bi, ty_ll, ty_tt, ty_bb, ty_ib, ty_lt, ty_li, ty_ls, ty_ss, ty_sl, ty_st, bindT, setMany, setL, intAt, catL, cm_lt, cm_le, cm_gt, cm_ge, cm_eqi, cm_nei, op_add, op_sub, op_mul, op_fdiv, op_mod, ix_t0, ix_t1, ix_t2, scal_tp, pow_ok, len_l, len_t, len_s, xb_abs, xb_max2, xb_min2, xb_list, xb_listT, xb_intb, xb_inti, xb_min, xb_max, it_seq, it_seqT, it_seqS, it_enum, it_zip, it_rev] at this
        simp [f_law, init, ev_var, ev_brw, ev_cst, ev_bin, ev_neg, ev_not, ev_cmp, ev_and, ev_or, ev_ite, ev_call, ev_bi, ev_isi, ev_idx, ev_sl, ev_tup, ev_lst, ev_lc, evs_nil, evs_cons, evb_nil, evb_cons, evo_nil, evo_cons, ex_nil, ex_pass, ex_brk, ex_cons, ex_asg, ex_unp, ex_par, ex_aug, ex_ret, ex_retv, ex_iff, ex_for, ex_forc, forcX.eq_1, ex_whl, ex_app, ex_seti, ev_dnew, ev_dnewI, setkX.eq_1, setiX.eq_1, setiX.eq_2, ex_try, ex_hnd, phX.eq_1, try_exc, try_l, try_t, tryO_nil, tryO_one, hnd_eq, hndE.eq_1, hndE.eq_2, ex_pop, ex_clr, ex_revl, varX.eq_1, varX.eq_2, brwX.eq_1, binX.eq_1, negX.eq_1, notX.eq_1, cmpX.eq_1, boX.eq_1, andX.eq_1, andX.eq_2, orX.eq_1, orX.eq_2, iteX.eq_1, iteX.eq_2, retX.eq_1, retX.eq_2, callX.eq_1, biX.eq_1, isiX.eq_1, idxX.eq_1, slX.eq_1, tupX.eq_1, lstX.eq_1, iterX.eq_1, lcX.eq_1, consX.eq_1, consX.eq_2, consB.eq_1, oX.eq_1, thn.eq_1, thn.eq_2, thn.eq_3, asgX.eq_1, asgX.eq_2, unpX.eq_1, unpX.eq_2, parX.eq_1, augX.eq_1, retvX.eq_1, rtX.eq_1, rtX.eq_2, iffX.eq_1, iffX.eq_2, putX.eq_1, ownX.eq_1, appX.eq_1, appX.eq_2, popX.eq_1, mapX.eq_1, frz, frzAt, aft, asI, asB, asT, asTL.eq_1, asTL.eq_2, asL, fl_t, fl_l, fl_d, fl_i, fl_b, fl_n, fl_tp, fa_nil, fa_cons, fa_tp, fa_int, ks_l, ks_lz, ks_t, ks_i, ks_b, ks_n, ks_d, ks_tp, aftR, sc_l, sc_t, sc_i, sc_b, sc_n, outV, ty_ii, ty_bi, ty_ll, ty_tt, ty_bb, ty_ib, ty_lt, ty_li, ty_ls, ty_ss, ty_sl, ty_st, bindT, setMany, setL, intAt, catL, cm_lt, cm_le, cm_gt, cm_ge, cm_eqi, cm_nei, op_add, op_sub, op_mul, op_fdiv, op_mod, ix_t0, ix_t1, ix_t2, scal_tp, pow_ok, len_l, len_t, len_s, xb_abs, xb_max2, xb_min2, xb_list, xb_listT, xb_intb, xb_inti, xb_min, xb_max, it_seq, it_seqT, it_seqS, it_enum, it_zip, it_rev, e0, e1, e2, e3, e4, ex, ey, d2, d4, d16, p20, w1, w2, w3]
        exact this
end K02.Q
theorem K02.law (ns : List Int) (hn : ns.length ≤ 63) : ∃ o, Pv.look K02.tab "law" [Pv.scr (ns.map .int)] = some (.bool true, o) := K02.Q.law ns hn

set_option Elab.async false
set_option linter.all false
set_option maxRecDepth 100000
set_option maxHeartbeats 0
/-! the law's end. -/
namespace K02
open PySem PyProof.Rows L2 Pv
def top (i : Nat) : Stmt := PySem.Challenge.pw_creasecurve_k02_fractions_reckoned.main.body.getD i (.Pass ⟨0, 0, 0, 0⟩)
def d_law : DefI := ⟨"law", ["_law_script"], ["_law_script", "_law_kind", "_law_a", "_law_b", "_law_way", "_law_turn", "_law_far"], [], defArgs (top 32), defBody (top 32), defScope (top 32)⟩
def x_law : RowX := ⟨"law", 0, d_law, f_law, [("range", none)]⟩
def d__law_pair_holds : DefI := ⟨"_law_pair_holds", ["_law_a", "_law_b"], ["_law_a", "_law_b", "_law_found"], [], defArgs (top 31), defBody (top 31), defScope (top 31)⟩
def x__law_pair_holds : RowX := ⟨"_law_pair_holds", 0, d__law_pair_holds, f__law_pair_holds, [("isinstance", none), ("bool", none)]⟩
def d_over : DefI := ⟨"over", ["a", "b"], ["a", "b"], [], defArgs (top 18), defBody (top 18), defScope (top 18)⟩
def x_over : RowX := ⟨"over", 0, d_over, f_over, []⟩
def d__law_refused : DefI := ⟨"_law_refused", ["_law_a", "_law_b"], ["_law_a", "_law_b", "_law_told", "_law_e"], [2], defArgs (top 30), defBody (top 30), defScope (top 30)⟩
def x__law_refused : RowX := ⟨"_law_refused", 1, d__law_refused, f__law_refused, []⟩
def d__law_only : DefI := ⟨"_law_only", ["_law_at"], ["_law_at", "_law_k"], [], defArgs (top 27), defBody (top 27), defScope (top 27)⟩
def x__law_only : RowX := ⟨"_law_only", 0, d__law_only, f__law_only, [("range", none)]⟩
def xR_over : RowX := ⟨"!over", 2, d_over, fR_over, []⟩
def d_fraction : DefI := ⟨"fraction", ["top", "bottom"], ["top", "bottom", "by"], [], defArgs (top 14), defBody (top 14), defScope (top 14)⟩
def xR_fraction : RowX := ⟨"!fraction", 2, d_fraction, fR_fraction, []⟩
def d_times : DefI := ⟨"times", ["a", "b"], ["a", "b"], [], defArgs (top 17), defBody (top 17), defScope (top 17)⟩
def x_times : RowX := ⟨"times", 0, d_times, f_times, []⟩
def d_minus : DefI := ⟨"minus", ["a", "b"], ["a", "b"], [], defArgs (top 16), defBody (top 16), defScope (top 16)⟩
def x_minus : RowX := ⟨"minus", 0, d_minus, f_minus, []⟩
def d_plus : DefI := ⟨"plus", ["a", "b"], ["a", "b"], [], defArgs (top 15), defBody (top 15), defScope (top 15)⟩
def x_plus : RowX := ⟨"plus", 0, d_plus, f_plus, []⟩
def x_fraction : RowX := ⟨"fraction", 0, d_fraction, f_fraction, []⟩
def d_divisor : DefI := ⟨"divisor", ["one", "other"], ["one", "other", "rest"], [], defArgs (top 13), defBody (top 13), defScope (top 13)⟩
def x_divisor : RowX := ⟨"divisor", 0, d_divisor, f_divisor, [("abs", none)]⟩
def d__law_is : DefI := ⟨"_law_is", ["_law_found", "_law_top", "_law_bottom"], ["_law_found", "_law_top", "_law_bottom"], [], defArgs (top 28), defBody (top 28), defScope (top 28)⟩
def x__law_is : RowX := ⟨"_law_is", 0, d__law_is, f__law_is, []⟩
def d__law_is_fraction : DefI := ⟨"_law_is_fraction", ["_law_found"], ["_law_found"], [], defArgs (top 25), defBody (top 25), defScope (top 25)⟩
def x__law_is_fraction : RowX := ⟨"_law_is_fraction", 0, d__law_is_fraction, f__law_is_fraction, [("isinstance", none), ("tuple", none), ("len", none)]⟩
def d__law_whole : DefI := ⟨"_law_whole", ["_law_found"], ["_law_found"], [], defArgs (top 22), defBody (top 22), defScope (top 22)⟩
def x__law_whole : RowX := ⟨"_law_whole", 0, d__law_whole, f__law_whole, [("isinstance", none), ("int", none), ("bool", none)]⟩
def d_less : DefI := ⟨"less", ["a", "b"], ["a", "b"], [], defArgs (top 19), defBody (top 19), defScope (top 19)⟩
def x_less : RowX := ⟨"less", 0, d_less, f_less, []⟩
def d__law_drawn : DefI := ⟨"_law_drawn", ["_law_cell", "_law_other", "_law_kind"], ["_law_cell", "_law_other", "_law_kind", "_law_size"], [], defArgs (top 29), defBody (top 29), defScope (top 29)⟩
def x__law_drawn : RowX := ⟨"_law_drawn", 0, d__law_drawn, f__law_drawn, []⟩
def d__law_fraction : DefI := ⟨"_law_fraction", ["_law_top", "_law_bottom"], ["_law_top", "_law_bottom", "_law_by"], [], defArgs (top 24), defBody (top 24), defScope (top 24)⟩
def x__law_fraction : RowX := ⟨"_law_fraction", 0, d__law_fraction, f__law_fraction, []⟩
def d__law_divisor : DefI := ⟨"_law_divisor", ["_law_a", "_law_b"], ["_law_a", "_law_b", "_law_rest"], [], defArgs (top 23), defBody (top 23), defScope (top 23)⟩
def x__law_divisor : RowX := ⟨"_law_divisor", 0, d__law_divisor, f__law_divisor, [("abs", none)]⟩
def d__law_cell_at : DefI := ⟨"_law_cell_at", ["_law_script", "_law_k"], ["_law_script", "_law_k", "_law_cell"], [], defArgs (top 21), defBody (top 21), defScope (top 21)⟩
def x__law_cell_at : RowX := ⟨"_law_cell_at", 0, d__law_cell_at, f__law_cell_at, [("len", none)]⟩
def d__law_marks : DefI := ⟨"_law_marks", ["_law_e"], ["_law_e", "_law_marks_here"], [1], defArgs (top 26), defBody (top 26), defScope (top 26)⟩
def m__law_marks : RowM := ⟨d__law_marks, "_law_e", [("isinstance", none)], [(("NoFraction" : Str), (.cons (.asg 1 [] (.lst (.cons (.cst (.bool true)) (.cons (.cst (.bool true)) (.cons (.cst (.bool false)) .nil))))) (.cons (.asg 1 [] (.bin .add (.brw 1) (.lst (.cons (.cst (.bool false)) (.cons (.cst (.bool false)) (.cons (.cst (.bool false)) .nil)))))) (.cons (.asg 1 [] (.bin .add (.brw 1) (.lst (.cons (.cst (.bool false)) (.cons (.cst (.bool false)) (.cons (.cst (.bool false)) .nil)))))) (.cons (.ret [] (.bin .add (.brw 1) (.lst (.cons (.cst (.bool false)) (.cons (.cst (.bool false)) .nil))))) .nil)))), [.bool true, .bool true, .bool false, .bool false, .bool false, .bool false, .bool false, .bool false, .bool false, .bool false, .bool false])]⟩
def low : List RowX := [x__law_pair_holds, x_over, x__law_refused, x__law_only, xR_over, xR_fraction, x_times, x_minus, x_plus, x_fraction, x_divisor, x__law_is, x__law_is_fraction, x__law_whole, x_less, x__law_drawn, x__law_fraction, x__law_divisor, x__law_cell_at]
def ms : List RowM := [m__law_marks]
def xf : XF := ⟨["NoFraction"], [(("NoFraction" : Str), ("RoofError" : Str))], [((("NoFraction" : Str), ("NoFraction" : Str)), true), ((("NoFraction" : Str), ("NoRoof" : Str)), false), ((("NoFraction" : Str), ("TooSteep" : Str)), false), ((("NoFraction" : Str), ("TooMany" : Str)), false), ((("NoFraction" : Str), ("NoNumber" : Str)), false), ((("NoFraction" : Str), ("NoCorner" : Str)), false), ((("NoFraction" : Str), ("NoDealing" : Str)), false), ((("NoFraction" : Str), ("NoRow" : Str)), false), ((("NoFraction" : Str), ("NoText" : Str)), false), ((("NoFraction" : Str), ("NoName" : Str)), false)], [(("NoFraction" : Str), true)], [], []⟩
theorem rows_ok : RowsX xf ms (x_law :: low) := by
  refine ⟨?_, ?_, ?_, ?_, ?_, ?_, ?_, ?_, ?_, ?_, ?_, ?_, ?_, ?_, ?_, ?_, ?_, ?_, ?_, ?_, trivial⟩ <;> exact ⟨by kernel_rfl, by kernel_rfl⟩
theorem ms_ok : MsX xf ms := by
  refine ⟨?_, trivial⟩ <;>
  · refine ⟨by kernel_rfl, fun t ht => ?_⟩
    simp only [m__law_marks, List.mem_cons, List.not_mem_nil, or_false] at ht
    rcases ht with rfl <;> exact ⟨by decide +kernel, by kernel_rfl, fun Φ => by rfl⟩
abbrev R : PySem.W.OpenRow := PySem.W.OpenLaw.row PySem.Challenge.rw_creasecurve_k02_fractions_reckoned
def fa : List He.Fa := tabFaX xf ms (x_law :: low)
def fd : List He.DefD := tabDefX ms (x_law :: low)
abbrev hk : PySem.W.Hook := He.hookX 4 fa fd [] [] (exX xf)
def ob (s : PySem.W.SharedT) : He.AlX := He.obsX 4 fa fd [] [] (exX xf) (HandSHeadRun.getT s)
theorem ob_eq (s : PySem.W.SharedT) : ob s = hk.obs s.abs := He.obsX_eq (HandSHeadRun.getT_eq s)
def loose : List Str := [("RoofError" : Str), ("NoFraction" : Str), ("NoRoof" : Str), ("TooSteep" : Str), ("TooMany" : Str), ("NoNumber" : Str), ("NoCorner" : Str), ("NoDealing" : Str), ("NoRow" : Str), ("NoText" : Str), ("NoName" : Str), ("divisor" : Str), ("fraction" : Str), ("plus" : Str), ("minus" : Str), ("times" : Str), ("over" : Str), ("less" : Str), ("_law_cell_at" : Str), ("_law_whole" : Str), ("_law_divisor" : Str), ("_law_fraction" : Str), ("_law_is_fraction" : Str), ("_law_marks" : Str), ("_law_only" : Str), ("_law_is" : Str), ("_law_drawn" : Str), ("_law_refused" : Str), ("_law_pair_holds" : Str)]
theorem run (w : World) : HandSHeadRun.RunEq R (PySem.W.view R.prog [32]) hk ob 4000 loose w := by
  intro os
  kernel_rfl
theorem tab_eq : rowTabX (x_law :: low) = tab := rfl
end K02
open PySem PySem.W PySem.Calls PyProof.Rows
theorem PySem.Challenge.rw_end_k02 (law : ∀ ns : List Int, ns.length ≤ 63 → ∃ o, Pv.look K02.tab "law" [Pv.scr (ns.map .int)] = some (.bool true, o)) : PySem.Challenge.rw_creasecurve_k02_fractions_reckoned.Holds := by
  w_on; o_law
  refine HandSHeadRun.head_any (r := OpenLaw.row PySem.Challenge.rw_creasecurve_k02_fractions_reckoned) (q := view (OpenLaw.row PySem.Challenge.rw_creasecurve_k02_fractions_reckoned).prog [32]) (H := K02.hk) (ob := K02.ob) (M := 4000) (loose := K02.loose) (d := HandSHeadRun.topDef (OpenLaw.row PySem.Challenge.rw_creasecurve_k02_fractions_reckoned).prog 32) (kwd := []) K02.ob_eq
    (by kernel_rfl) (fun s => by kernel_rfl) K02.run (by kernel_rfl) (by kernel_rfl) (by kernel_rfl) (by rfl) (by first | assumption | decide +kernel) (by decide +kernel) ⟨rfl, rfl, rfl, rfl, rfl, by decide +kernel⟩ ?hw ?hc
  case hw => w_witness2
  case hc =>
    refine L2.walk_ofE (l := PySem.Challenge.rw_creasecurve_k02_fractions_reckoned) (n := 63) (k := K02.low.length + 2) (x := "_law_script") (CX := L2.CX0) rfl (by decide) (by kernel_rfl) ⟨rfl, by decide, by decide⟩ ?F (fun _ _ _ _ z => z)
    intro w mg fa h Y G hmg0
    obtain ⟨K, KX, c⟩ := Y
    have hmg : mg ("law" : PySem.Str) = some (.ref fa) := by
      have e : (HandSHeadRun.topDef (OpenLaw.row PySem.Challenge.rw_creasecurve_k02_fractions_reckoned).prog 32).name = ("law" : PySem.Str) := by kernel_rfl
      rw [← e]
      exact hmg0
    obtain ⟨fd, sp, hb, hsp, hF⟩ := Pv.law_walkX (P := (PySem.Challenge.rw_creasecurve_k02_fractions_reckoned).prog) (w := w) (n := 63) (xf := K02.xf) (ms := K02.ms) (r := K02.x_law) (rs := K02.low) KX G c.t.d c.more hmg rfl (by decide) rfl K02.ms_ok K02.rows_ok K02.tab_ok law
    exact ⟨K, fd, sp, KX, hb, hsp, hF⟩

theorem PySem.Challenge.cw_creasecurve_k02_fractions_reckoned_holds : PySem.Challenge.rw_creasecurve_k02_fractions_reckoned.Holds :=
  PySem.Challenge.rw_end_k02 K02.law
